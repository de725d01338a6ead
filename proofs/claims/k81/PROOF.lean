import PyProof.Rows.All
import Wide.All
import OpenK.AllK
import Wide.FinOn
import KE.KSuper
import HandS.ForMost
import HandS.Nested
import KE.KMathGC
import HandS.Star
import HandS.Defaults
import HandS.Gcd
import KE.GoesEnum
import HandS.Set
import HandS.SetBool
import PyProof.Rows.SortStr
import PyProof.DictCompW
import HandS.Comp
import HandS.DictComp
import PyProof.ReprBulk
import PyProof.ReprRoads
import HandS.IsInst
import HandS.TupAny
import KE.KStateDown
import Lean
import HandS.Head0
import HandS.Head1
import HandS.Head2
import HandS.Head3
import HandS.HeadEnd
import HandS.HeadHook1
import HandS.HeadHook2
import HandS.HeadHook4
import HandS.FStr
import HandS.More
import HandS.WordsDict
import HandS.Conv
import HandS.Ends
import PySem.Challenge.RW_surelet_k81_whole_needed_is_the_longest
set_option Elab.async false
set_option linter.all false
/-! Matchings by ways that change about: what the program's Matching finds. Plain Lean. -/
namespace Ma
abbrev Mp := Nat → Option Nat
def up (R : Mp) (k v : Nat) : Mp := fun j => if j = k then some v else R j
theorem up_same {R : Mp} {k v : Nat} : up R k v k = some v := if_pos rfl
theorem up_ne {R : Mp} {k v j : Nat} (h : j ≠ k) : up R k v j = R j := if_neg h

/-! ### the program's steps, as plain functions -/
def change (c : Mp) : Nat → Option Nat → Mp → Mp → Mp × Mp
  | 0, _, R, L => (R, L)
  | _ + 1, none, R, L => (R, L)
  | f + 1, some r, R, L => match c r with
    | none => (R, L)
    | some l => change c f (R l) (up R l r) (up L r l)
def Term (c : Mp) : Nat → Option Nat → Mp → Prop
  | _, none, _ => True
  | 0, some _, _ => False
  | f + 1, some r, R => ∃ l, c r = some l ∧ Term c f (R l) (up R l r)
inductive Sc where
  | go (c : Mp) (q : List Nat)
  | hit (r : Nat) (c : Mp)
def scan (L : Mp) (l : Nat) : List Nat → Mp → List Nat → Sc
  | [], c, q => .go c q
  | r :: rs, c, q => match c r with
    | some _ => scan L l rs c q
    | none => match L r with
      | none => .hit r (up c r l)
      | some p => scan L l rs (up c r l) (q ++ [p])
def bfs (G : Nat → List Nat) (N : Nat) (R L : Mp) : Nat → Nat → Mp → List Nat → Mp × Mp
  | 0, _, _, _ => (R, L)
  | f + 1, a, c, q => match q[a]? with
    | none => (R, L)
    | some l => match scan L l (G l) c q with
      | .go c' q' => bfs G N R L f (a + 1) c' q'
      | .hit r c' => change c' N (some r) R L
def mOne (G : Nat → List Nat) (n : Nat) (p : Mp × Mp) (s : Nat) : Mp × Mp := bfs G (n + 2) p.1 p.2 (n + 2) 0 (fun _ => none) [s]
def mUp (G : Nat → List Nat) (n : Nat) : Nat → Mp × Mp
  | 0 => (fun _ => none, fun _ => none)
  | i + 1 => mOne G n (mUp G n i) i

/-! ### the way back -/
theorem Term.none {c : Mp} {f : Nat} {R : Mp} : Term c f Option.none R := by cases f <;> exact True.intro
theorem Term.mono {c : Mp} : ∀ {f g : Nat} {o : Option Nat} {R : Mp}, Term c f o R → f ≤ g → Term c g o R
  | _, _, Option.none, _, _, _ => Term.none
  | 0, _, some _, _, h, _ => h.elim
  | f + 1, 0, some _, _, _, h => absurd h (by omega)
  | f + 1, g + 1, some r, R, h, hl => by
    obtain ⟨l, e, t⟩ := h
    exact ⟨l, e, Term.mono t (by omega)⟩

/-- what stands while a way is changed about: r is not yet anybody's, or still somebody else's -/
def Jn (r : Nat) (R L : Mp) : Prop := ∀ l x, R l = some x ↔ (x ≠ r ∧ L x = some l)
structure Ch (G : Nat → List Nat) (s r : Nat) (R L R' L' : Mp) : Prop where
  inv : ∀ l x, R' l = some x ↔ L' x = some l
  edge : ∀ l x, R' l = some x → x ∈ G l
  domR : ∀ l, (∃ x, R' l = some x) ↔ (l = s ∨ ∃ x, R l = some x)
  domL : ∀ x, (∃ l, L' x = some l) ↔ (x = r ∨ ∃ l, L x = some l)
  keep : ∀ (Z Y : Nat → Prop), (∀ l, Z l → ∀ x ∈ G l, Y x) → (∀ x, Y x → ∃ l, Z l ∧ L x = some l) → ¬ Y r → ∀ x, Y x → L' x = L x
theorem change_ok {G : Nat → List Nat} {c : Mp} {s : Nat} : ∀ (f r : Nat) (R L : Mp), Term c f (some r) R → Jn r R L → (∀ l x, R l = some x → x ∈ G l) → (∀ x l, c x = some l → x ∈ G l ∧ (l = s ∨ ∃ y, R l = some y)) →
    Ch G s r R L (change c f (some r) R L).1 (change c f (some r) R L).2
  | 0, _, _, _, h, _, _, _ => h.elim
  | f + 1, r, R, L, h, J, E, C => by
    obtain ⟨l, e, t⟩ := h
    obtain ⟨hl1, hl2⟩ := C r l e
    have ech : change c (f + 1) (some r) R L = change c f (R l) (up R l r) (up L r l) := by
      show (match c r with | Option.none => (R, L) | some l => change c f (R l) (up R l r) (up L r l)) = _
      rw [e]
    rw [ech]
    have E2 : ∀ l2 x, up R l r l2 = some x → x ∈ G l2 := fun l2 x hx => by
      by_cases q : l2 = l
      · subst q
        rw [up_same] at hx
        cases hx
        exact hl1
      · rw [up_ne q] at hx
        exact E l2 x hx
    cases hR : R l with
    | none =>
      have ls : l = s := by
        rcases hl2 with z | ⟨y, z⟩
        · exact z
        · rw [hR] at z
          cases z
      have e2 : change c f Option.none (up R l r) (up L r l) = (up R l r, up L r l) := by cases f <;> rfl
      rw [e2]
      refine ⟨fun l2 x => ?_, E2, fun l2 => ?_, fun x => ?_, fun Z Y hz hy hr x hx => ?_⟩
      · by_cases q : l2 = l
        · subst q
          show up R l2 r l2 = some x ↔ up L r l2 x = some l2
          rw [up_same]
          by_cases qx : x = r
          · subst qx
            rw [up_same]
            exact ⟨fun _ => rfl, fun _ => rfl⟩
          · rw [up_ne qx]
            constructor
            · intro z
              exact absurd (Option.some.inj z).symm qx
            · intro z
              have w := (J l2 x).2 ⟨qx, z⟩
              rw [hR] at w
              cases w
        · show up R l r l2 = some x ↔ up L r l x = some l2
          rw [up_ne q, J l2 x]
          by_cases qx : x = r
          · subst qx
            rw [up_same]
            constructor
            · intro z
              exact absurd rfl z.1
            · intro z
              exact absurd (Option.some.inj z).symm q
          · rw [up_ne qx]
            exact ⟨fun z => z.2, fun z => ⟨qx, z⟩⟩
      · show (∃ x, up R l r l2 = some x) ↔ _
        by_cases q : l2 = l
        · subst q
          exact ⟨fun _ => .inl ls, fun _ => ⟨r, up_same⟩⟩
        · rw [up_ne q]
          exact ⟨fun z => .inr z, fun z => z.resolve_left fun w => q (w.trans ls.symm)⟩
      · show (∃ l2, up L r l x = some l2) ↔ _
        by_cases qx : x = r
        · subst qx
          exact ⟨fun _ => .inl rfl, fun _ => ⟨l, up_same⟩⟩
        · rw [up_ne qx]
          exact ⟨fun z => .inr z, fun z => z.resolve_left qx⟩
      · show up L r l x = L x
        exact up_ne fun z => hr (z ▸ hx)
    | some r2 =>
      obtain ⟨h1, h2⟩ := (J l r2).1 hR
      rw [hR] at t
      have J2 : Jn r2 (up R l r) (up L r l) := fun l2 x => by
        by_cases q : l2 = l
        · subst q
          rw [up_same]
          by_cases qx : x = r
          · subst qx
            rw [up_same]
            exact ⟨fun _ => ⟨fun z => h1 z.symm, rfl⟩, fun _ => rfl⟩
          · rw [up_ne qx]
            constructor
            · intro z
              exact absurd (Option.some.inj z).symm qx
            · rintro ⟨z1, z2⟩
              have w := (J l2 x).2 ⟨qx, z2⟩
              rw [hR] at w
              exact absurd (Option.some.inj w).symm z1
        · rw [up_ne q, J l2 x]
          by_cases qx : x = r
          · subst qx
            rw [up_same]
            constructor
            · intro z
              exact absurd rfl z.1
            · intro z
              exact absurd (Option.some.inj z.2).symm q
          · rw [up_ne qx]
            constructor
            · rintro ⟨_, z⟩
              refine ⟨fun w => ?_, z⟩
              subst w
              rw [h2] at z
              exact q (Option.some.inj z).symm
            · rintro ⟨_, z⟩
              exact ⟨qx, z⟩
      have C2 : ∀ x l2, c x = some l2 → x ∈ G l2 ∧ (l2 = s ∨ ∃ y, up R l r l2 = some y) := fun x l2 hx => by
        obtain ⟨z1, z2⟩ := C x l2 hx
        refine ⟨z1, z2.imp id fun ⟨y, z⟩ => ?_⟩
        by_cases q : l2 = l
        · subst q
          exact ⟨r, up_same⟩
        · exact ⟨y, by rw [up_ne q]; exact z⟩
      have ih := change_ok f r2 (up R l r) (up L r l) t J2 E2 C2
      refine ⟨ih.inv, ih.edge, fun l2 => (ih.domR l2).trans ?_, fun x => (ih.domL x).trans ?_, fun Z Y hz hy hr x hx => ?_⟩
      · by_cases q : l2 = l
        · subst q
          rw [up_same]
          exact ⟨fun _ => .inr ⟨r2, hR⟩, fun _ => .inr ⟨r, rfl⟩⟩
        · rw [up_ne q]
      · by_cases qx : x = r
        · subst qx
          rw [up_same]
          exact ⟨fun _ => .inl rfl, fun _ => .inr ⟨l, rfl⟩⟩
        · rw [up_ne qx]
          constructor
          · rintro (z | z)
            · subst z
              exact .inr ⟨l, h2⟩
            · exact .inr z
          · rintro (z | z)
            · exact absurd z qx
            · exact .inr z
      · have nz : ¬ Z l := fun z => hr (hz l z r hl1)
        have ny : ¬ Y r2 := fun z => by
          obtain ⟨l3, w1, w2⟩ := hy r2 z
          rw [h2] at w2
          cases w2
          exact nz w1
        have hne : ∀ y, Y y → up L r l y = L y := fun y hy' => up_ne fun z => hr (z ▸ hy')
        have q := ih.keep Z Y hz (fun y hy' => by rw [hne y hy']; exact hy y hy') ny x hx
        rw [q]
        exact hne x hx

/-! ### the search -/
structure BI (G : Nat → List Nat) (n : Nat) (L : Mp) (s : Nat) (c : Mp) (q ks : List Nat) : Prop where
  q0 : q = s :: ks.map fun r => (L r).getD 0
  nd : ks.Nodup
  kc : ∀ r, (∃ l, c r = some l) ↔ r ∈ ks
  kl : ∀ r ∈ ks, ∃ l, L r = some l
  kn : ∀ r ∈ ks, r < n
  ord : ∀ (i r : Nat), ks[i]? = some r → ∃ j l, j ≤ i ∧ q[j]? = some l ∧ c r = some l ∧ r ∈ G l
def Done (G : Nat → List Nat) (q ks : List Nat) (a : Nat) : Prop := ∀ (j l : Nat), j < a → q[j]? = some l → ∀ r ∈ G l, r ∈ ks

theorem nodup_le : ∀ (n : Nat) (l : List Nat), l.Nodup → (∀ x ∈ l, x < n) → l.length ≤ n := fun n l nd h => by
  have p : l.Nodup → (∀ x ∈ l, x ∈ List.range n) → l.length ≤ (List.range n).length := fun a b => List.Nodup.length_le_of_subset a b
  have q := p nd fun x hx => List.mem_range.mpr (h x hx)
  rwa [List.length_range] at q
theorem BI.qlen {G : Nat → List Nat} {n s : Nat} {L c : Mp} {q ks : List Nat} (B : BI G n L s c q ks) : q.length = ks.length + 1 := by
  rw [B.q0, List.length_cons, List.length_map]
theorem BI.klen {G : Nat → List Nat} {n s : Nat} {L c : Mp} {q ks : List Nat} (B : BI G n L s c q ks) : ks.length ≤ n := nodup_le n ks B.nd B.kn
theorem BI.qs {G : Nat → List Nat} {n s : Nat} {L c : Mp} {q ks : List Nat} (B : BI G n L s c q ks) {i r l : Nat} (h : ks[i]? = some r) (hl : L r = some l) : q[i + 1]? = some l := by
  rw [B.q0, List.getElem?_cons_succ, List.getElem?_map, h]
  show some ((L r).getD 0) = some l
  rw [hl]
  rfl
theorem BI.start {G : Nat → List Nat} {n s : Nat} {L : Mp} : BI G n L s (fun _ => none) [s] [] :=
  ⟨rfl, List.nodup_nil, fun r => ⟨fun ⟨_, z⟩ => (nomatch z), fun z => (nomatch z)⟩, fun _ z => (nomatch z), fun _ z => (nomatch z), fun i r z => by simp at z⟩
theorem BI.more {G : Nat → List Nat} {n s : Nat} {L c : Mp} {q ks : List Nat} (B : BI G n L s c q ks) {a l r p : Nat} (ha : q[a]? = some l) (hr : r ∈ G l) (hn : r < n) (hc : c r = none) (hp : L r = some p) :
    BI G n L s (up c r l) (q ++ [p]) (ks ++ [r]) := by
  have nk : r ∉ ks := fun z => by
    obtain ⟨l', e⟩ := (B.kc r).2 z
    rw [hc] at e
    cases e
  have hal : a < q.length := (List.getElem?_eq_some_iff.mp ha).1
  refine ⟨?_, ?_, fun x => ?_, fun x hx => ?_, fun x hx => ?_, fun i x hx => ?_⟩
  · rw [B.q0, List.map_append, List.cons_append]
    show _ = s :: (_ ++ [(L r).getD 0])
    rw [hp]
    rfl
  · refine List.nodup_append.mpr ⟨B.nd, by simp, fun x hx y hy => ?_⟩
    have : y = r := List.mem_singleton.mp hy
    subst this
    intro z
    exact nk (z ▸ hx)
  · by_cases e : x = r
    · subst e
      exact ⟨fun _ => by simp, fun _ => ⟨l, up_same⟩⟩
    · rw [up_ne e, B.kc x]
      simp [e]
  · rcases List.mem_append.mp hx with z | z
    · exact B.kl x z
    · exact ⟨p, by rw [List.mem_singleton.mp z]; exact hp⟩
  · rcases List.mem_append.mp hx with z | z
    · exact B.kn x z
    · rw [List.mem_singleton.mp z]
      exact hn
  · by_cases hi : i < ks.length
    · rw [List.getElem?_append_left hi] at hx
      obtain ⟨j, l', h1, h2, h3, h4⟩ := B.ord i x hx
      have hx' : x ∈ ks := List.mem_of_getElem? hx
      exact ⟨j, l', h1, by rw [List.getElem?_append_left (List.getElem?_eq_some_iff.mp h2).1]; exact h2, by rw [up_ne (show x ≠ r from fun z => nk (z ▸ hx'))]; exact h3, h4⟩
    · have hi2 : i = ks.length := by
        have := (List.getElem?_eq_some_iff.mp hx).1
        rw [List.length_append, List.length_singleton] at this
        omega
      subst hi2
      have ex : x = r := by
        rw [List.getElem?_append_right (Nat.le_refl _), Nat.sub_self] at hx
        exact (Option.some.inj hx).symm
      subst ex
      have := B.qlen
      exact ⟨a, l, by omega, by rw [List.getElem?_append_left hal]; exact ha, up_same, hr⟩
theorem Done.more {G : Nat → List Nat} {q ks : List Nat} {a r p : Nat} (D : Done G q ks a) (ha : a ≤ q.length) : Done G (q ++ [p]) (ks ++ [r]) a := fun j l hj h x hx => by
  rw [List.getElem?_append_left (by omega)] at h
  exact List.mem_append_left _ (D j l hj h x hx)

structure MI (G : Nat → List Nat) (R L : Mp) : Prop where
  inv : ∀ l x, R l = some x ↔ L x = some l
  edge : ∀ l x, R l = some x → x ∈ G l
theorem BI.qnd {G : Nat → List Nat} {n s : Nat} {R L c : Mp} {q ks : List Nat} (B : BI G n L s c q ks) (M : MI G R L) (hs : R s = none) {i j l : Nat} (hi : q[i]? = some l) (hj : q[j]? = some l) : i = j := by
  have key : ∀ {i l : Nat}, q[i + 1]? = some l → ∃ r, ks[i]? = some r ∧ R l = some r := fun {i l} h => by
    rw [B.q0, List.getElem?_cons_succ, List.getElem?_map] at h
    cases e : ks[i]? with
    | none =>
      rw [e] at h
      cases h
    | some r =>
      rw [e] at h
      obtain ⟨l', hl⟩ := B.kl r (List.mem_of_getElem? e)
      have h' : (L r).getD 0 = l := Option.some.inj h
      rw [hl] at h'
      have h' : l' = l := h'
      subst h'
      exact ⟨r, rfl, (M.inv _ _).2 hl⟩
  have z0 : ∀ {l : Nat}, q[0]? = some l → l = s := fun {l} h => by
    rw [B.q0] at h
    exact (Option.some.inj h).symm
  cases i with
  | zero =>
    cases j with
    | zero => rfl
    | succ j =>
      obtain ⟨r, _, h2⟩ := key hj
      rw [z0 hi, hs] at h2
      cases h2
  | succ i =>
    obtain ⟨r, h1, h2⟩ := key hi
    cases j with
    | zero =>
      rw [z0 hj, hs] at h2
      cases h2
    | succ j =>
      obtain ⟨r', h1', h2'⟩ := key hj
      rw [h2] at h2'
      cases h2'
      obtain ⟨a1, b1⟩ := List.getElem?_eq_some_iff.mp h1
      obtain ⟨a2, b2⟩ := List.getElem?_eq_some_iff.mp h1'
      have := (List.getElem_inj B.nd).mp (b1.trans b2.symm)
      rw [this]
theorem BI.term {G : Nat → List Nat} {n s : Nat} {R L c c' : Mp} {q ks : List Nat} (B : BI G n L s c q ks) (M : MI G R L) (hs : R s = none) (hc : ∀ r ∈ ks, c' r = c r) : ∀ (i r : Nat), ks[i]? = some r →
    ∀ R1 : Mp, (∀ j l, j ≤ i → q[j]? = some l → R1 l = R l) → Term c' (i + 1) (some r) R1 := by
  intro i
  induction i using Nat.strongRecOn with
  | ind i ih =>
    intro r hr R1 h1
    obtain ⟨j, l, hj, hq, hcr, _⟩ := B.ord i r hr
    refine ⟨l, by rw [hc r (List.mem_of_getElem? hr)]; exact hcr, ?_⟩
    rw [h1 j l hj hq]
    cases j with
    | zero =>
      have e : l = s := by
        rw [B.q0] at hq
        exact (Option.some.inj hq).symm
      rw [e, hs]
      exact Term.none
    | succ j =>
      have hq' := hq
      rw [B.q0, List.getElem?_cons_succ, List.getElem?_map] at hq'
      cases e : ks[j]? with
      | none =>
        rw [e] at hq'
        cases hq'
      | some r' =>
        rw [e] at hq'
        obtain ⟨l', hl⟩ := B.kl r' (List.mem_of_getElem? e)
        have h' : (L r').getD 0 = l := Option.some.inj hq'
        rw [hl] at h'
        have h' : l' = l := h'
        subst h'
        rw [(M.inv _ _).2 hl]
        refine Term.mono (ih j (by omega) r' e (up R1 l' r) fun k l2 hk hl2 => ?_) (by omega)
        have ne : l2 ≠ l' := fun z => by
          subst z
          have := B.qnd M hs hl2 hq
          omega
        rw [up_ne ne]
        exact h1 k l2 (by omega) hl2

structure Hit (G : Nat → List Nat) (n : Nat) (R L : Mp) (s r : Nat) (c' : Mp) : Prop where
  free : L r = none
  lt : r < n
  term : Term c' (n + 2) (some r) R
  C : ∀ x l, c' x = some l → x ∈ G l ∧ (l = s ∨ ∃ y, R l = some y)
theorem BI.hit {G : Nat → List Nat} {n s : Nat} {R L c : Mp} {q ks : List Nat} (B : BI G n L s c q ks) (M : MI G R L) (hs : R s = none) {a l r : Nat} (ha : q[a]? = some l) (hr : r ∈ G l) (hn : r < n) (hc : c r = none) (hf : L r = none) :
    Hit G n R L s r (up c r l) := by
  have nk : r ∉ ks := fun z => by
    obtain ⟨l', e⟩ := (B.kc r).2 z
    rw [hc] at e
    cases e
  have hal : a < q.length := (List.getElem?_eq_some_iff.mp ha).1
  have hkl := B.klen
  have hql := B.qlen
  have inq : ∀ {j l2 : Nat}, q[j]? = some l2 → (l2 = s ∧ j = 0) ∨ ∃ j' r', j = j' + 1 ∧ ks[j']? = some r' ∧ L r' = some l2 := fun {j l2} h => by
    cases j with
    | zero =>
      rw [B.q0] at h
      exact .inl ⟨(Option.some.inj h).symm, rfl⟩
    | succ j =>
      refine .inr ?_
      have h' := h
      rw [B.q0, List.getElem?_cons_succ, List.getElem?_map] at h'
      cases e : ks[j]? with
      | none =>
        rw [e] at h'
        cases h'
      | some r' =>
        rw [e] at h'
        obtain ⟨l', hl⟩ := B.kl r' (List.mem_of_getElem? e)
        have h2 : (L r').getD 0 = l2 := Option.some.inj h'
        rw [hl] at h2
        have h2 : l' = l2 := h2
        subst h2
        exact ⟨j, r', rfl, e, hl⟩
  have keepc : ∀ x ∈ ks, up c r l x = c x := fun x hx => up_ne fun z => nk (z ▸ hx)
  refine ⟨hf, hn, ⟨l, up_same, ?_⟩, fun x l2 hx => ?_⟩
  · rcases inq ha with ⟨e, _⟩ | ⟨j', r', e, h1, h2⟩
    · rw [e, hs]
      exact Term.none
    · rw [(M.inv _ _).2 h2]
      refine Term.mono (B.term M hs keepc j' r' h1 (up R l r) fun k l3 hk hl3 => up_ne fun z => ?_) (by
        have := (List.getElem?_eq_some_iff.mp h1).1
        omega)
      subst z
      have := B.qnd M hs hl3 ha
      omega
  · by_cases e : x = r
    · subst e
      rw [up_same] at hx
      cases hx
      refine ⟨hr, ?_⟩
      rcases inq ha with ⟨e, _⟩ | ⟨j', r', _, _, h2⟩
      · exact .inl e
      · exact .inr ⟨r', (M.inv _ _).2 h2⟩
    · rw [up_ne e] at hx
      have hk := (B.kc x).1 ⟨l2, hx⟩
      obtain ⟨i, hi⟩ := List.mem_iff_getElem?.mp hk
      obtain ⟨j, l3, _, h2, h3, h4⟩ := B.ord i x hi
      rw [hx] at h3
      cases h3
      refine ⟨h4, ?_⟩
      rcases inq h2 with ⟨e, _⟩ | ⟨j', r', _, _, h2⟩
      · exact .inl e
      · exact .inr ⟨r', (M.inv _ _).2 h2⟩
/-- one left's line scanned: it goes on, or a free right is met -/
theorem scan_ok {G : Nat → List Nat} {n s : Nat} {R L : Mp} (M : MI G R L) (hs : R s = none) (hG : ∀ l, ∀ r ∈ G l, r < n) {a l : Nat} : ∀ (rs : List Nat) (c : Mp) (q ks : List Nat), BI G n L s c q ks → Done G q ks a → q[a]? = some l →
    (∀ r ∈ rs, r ∈ G l) → (∀ r ∈ G l, r ∈ rs ∨ r ∈ ks) →
    match scan L l rs c q with
    | .go c' q' => ∃ ks', BI G n L s c' q' ks' ∧ Done G q' ks' (a + 1) ∧ a + 1 ≤ q'.length
    | .hit r c' => Hit G n R L s r c'
  | [], c, q, ks, B, D, ha, _, h2 => by
    show ∃ ks', BI G n L s c q ks' ∧ Done G q ks' (a + 1) ∧ a + 1 ≤ q.length
    refine ⟨ks, B, fun j l' hj hl r hr => ?_, (List.getElem?_eq_some_iff.mp ha).1⟩
    by_cases e : j = a
    · subst e
      rw [ha] at hl
      cases hl
      exact (h2 r hr).resolve_left (by simp)
    · exact D j l' (by omega) hl r hr
  | r :: rs, c, q, ks, B, D, ha, h1, h2 => by
    have hal : a < q.length := (List.getElem?_eq_some_iff.mp ha).1
    have hrG := h1 r List.mem_cons_self
    have e0 : scan L l (r :: rs) c q = (match c r with | some _ => scan L l rs c q | none => match L r with | none => .hit r (up c r l) | some p => scan L l rs (up c r l) (q ++ [p])) := rfl
    rw [e0]
    cases e : c r with
    | some l' =>
      refine scan_ok M hs hG rs c q ks B D ha (fun x hx => h1 x (List.mem_cons_of_mem _ hx)) fun x hx => ?_
      rcases h2 x hx with z | z
      · rcases List.mem_cons.mp z with w | w
        · exact .inr ((B.kc x).1 ⟨l', by rw [w]; exact e⟩)
        · exact .inl w
      · exact .inr z
    | none =>
      cases e2 : L r with
      | none => exact B.hit M hs ha hrG (hG l r hrG) e e2
      | some p =>
        refine scan_ok M hs hG rs (up c r l) (q ++ [p]) (ks ++ [r]) (B.more ha hrG (hG l r hrG) e e2) (D.more (Nat.le_of_lt hal)) (by rw [List.getElem?_append_left hal]; exact ha) (fun x hx => h1 x (List.mem_cons_of_mem _ hx)) fun x hx => ?_
        rcases h2 x hx with z | z
        · rcases List.mem_cons.mp z with w | w
          · exact .inr (by rw [w]; simp)
          · exact .inl w
        · exact .inr (List.mem_append_left _ z)

/-! ### all searches -/
structure Stt (G : Nat → List Nat) (s : Nat) (R L : Mp) : Prop where
  mi : MI G R L
  dom : ∀ l x, R l = some x → l < s
  cl : ∃ Z Y : Nat → Prop, (∀ l, Z l → ∀ r ∈ G l, Y r) ∧ (∀ r, Y r → ∃ l, Z l ∧ L r = some l) ∧ ∀ l, l < s → R l = none → Z l
theorem bfs_ok {G : Nat → List Nat} {n s : Nat} {R L : Mp} (S : Stt G s R L) (hG : ∀ l, ∀ r ∈ G l, r < n) : ∀ (f a : Nat) (c : Mp) (q ks : List Nat), BI G n L s c q ks → Done G q ks a → a ≤ q.length → f + a = n + 2 →
    Stt G (s + 1) (bfs G (n + 2) R L f a c q).1 (bfs G (n + 2) R L f a c q).2 := by
  have hs : R s = none := by
    cases e : R s with
    | none => rfl
    | some x => exact absurd (S.dom s x e) (Nat.lt_irrefl _)
  intro f
  induction f with
  | zero =>
    intro a c q ks B D ha hf
    have := B.klen
    have := B.qlen
    omega
  | succ f ih =>
    intro a c q ks B D ha hf
    have e0 : bfs G (n + 2) R L (f + 1) a c q = (match q[a]? with | none => (R, L) | some l => match scan L l (G l) c q with | .go c' q' => bfs G (n + 2) R L f (a + 1) c' q' | .hit r c' => change c' (n + 2) (some r) R L) := rfl
    rw [e0]
    cases e : q[a]? with
    | none =>
      have hle : q.length ≤ a := List.getElem?_eq_none_iff.mp e
      refine ⟨S.mi, fun l x h => Nat.lt_succ_of_lt (S.dom l x h), ?_⟩
      obtain ⟨Z, Y, h1, h2, h3⟩ := S.cl
      refine ⟨fun l => Z l ∨ l ∈ q, fun r => Y r ∨ r ∈ ks, fun l hl r hr => ?_, fun r hr => ?_, fun l hl hl2 => ?_⟩
      · rcases hl with z | z
        · exact .inl (h1 l z r hr)
        · obtain ⟨j, hj⟩ := List.mem_iff_getElem?.mp z
          exact .inr (D j l (Nat.lt_of_lt_of_le (List.getElem?_eq_some_iff.mp hj).1 hle) hj r hr)
      · rcases hr with z | z
        · obtain ⟨l, w1, w2⟩ := h2 r z
          exact ⟨l, .inl w1, w2⟩
        · obtain ⟨l, hl⟩ := B.kl r z
          obtain ⟨i, hi⟩ := List.mem_iff_getElem?.mp z
          exact ⟨l, .inr (List.mem_of_getElem? (B.qs hi hl)), hl⟩
      · by_cases e2 : l = s
        · exact .inr (by rw [B.q0, e2]; exact List.mem_cons_self)
        · exact .inl (h3 l (by omega) hl2)
    | some l =>
      have sc := scan_ok (n := n) S.mi hs hG (G l) c q ks B D e (fun _ h => h) (fun _ h => .inl h)
      show Stt G (s + 1) (match scan L l (G l) c q with | .go c' q' => bfs G (n + 2) R L f (a + 1) c' q' | .hit r c' => change c' (n + 2) (some r) R L).1 (match scan L l (G l) c q with | .go c' q' => bfs G (n + 2) R L f (a + 1) c' q' | .hit r c' => change c' (n + 2) (some r) R L).2
      cases e2 : scan L l (G l) c q with
      | go c' q' =>
        rw [e2] at sc
        obtain ⟨ks', B', D', h⟩ := (show ∃ ks', BI G n L s c' q' ks' ∧ Done G q' ks' (a + 1) ∧ a + 1 ≤ q'.length from sc)
        exact ih (a + 1) c' q' ks' B' D' h (by omega)
      | hit r c' =>
        rw [e2] at sc
        have Hh : Hit G n R L s r c' := sc
        have J : Jn r R L := fun l2 x => by
          rw [S.mi.inv]
          refine ⟨fun z => ⟨fun w => ?_, z⟩, fun z => z.2⟩
          rw [w, Hh.free] at z
          cases z
        have c1 := change_ok (s := s) (n + 2) r R L Hh.term J S.mi.edge Hh.C
        show Stt G (s + 1) (change c' (n + 2) (some r) R L).1 (change c' (n + 2) (some r) R L).2
        refine ⟨⟨c1.inv, c1.edge⟩, fun l2 x h => ?_, ?_⟩
        · rcases (c1.domR l2).1 ⟨x, h⟩ with z | ⟨y, z⟩
          · omega
          · exact Nat.lt_succ_of_lt (S.dom l2 y z)
        · obtain ⟨Z, Y, h1, h2, h3⟩ := S.cl
          have ny : ¬ Y r := fun z => by
            obtain ⟨l3, _, w⟩ := h2 r z
            rw [Hh.free] at w
            cases w
          refine ⟨Z, Y, h1, fun x hx => ?_, fun l2 hl2 hn => ?_⟩
          · rw [c1.keep Z Y h1 h2 ny x hx]
            exact h2 x hx
          · have n1 : ¬ ∃ x, (change c' (n + 2) (some r) R L).1 l2 = some x := fun ⟨x, z⟩ => by
              rw [hn] at z
              cases z
            have n2 : ¬ (l2 = s ∨ ∃ x, R l2 = some x) := fun z => n1 ((c1.domR l2).2 z)
            have e3 : l2 ≠ s := fun z => n2 (.inl z)
            refine h3 l2 (by omega) ?_
            cases e4 : R l2 with
            | none => rfl
            | some x => exact absurd (.inr ⟨x, e4⟩) n2
theorem mUp_ok {G : Nat → List Nat} {n : Nat} (hG : ∀ l, ∀ r ∈ G l, r < n) : ∀ s, Stt G s (mUp G n s).1 (mUp G n s).2
  | 0 => ⟨⟨fun l x => ⟨fun z => (nomatch z), fun z => (nomatch z)⟩, fun _ _ z => (nomatch z)⟩, fun _ _ z => (nomatch z), fun _ => False, fun _ => False, fun _ z => z.elim, fun _ z => z.elim, fun l hl _ => absurd hl (by omega)⟩
  | s + 1 => by
    have ih := mUp_ok hG s
    exact bfs_ok ih hG (n + 2) 0 (fun _ => none) [s] [] BI.start (fun j l hj => absurd hj (by omega)) (Nat.zero_le _) rfl
end Ma

set_option Elab.async false
set_option linter.all false
/-! Chains, the clash, the greatest clash: the matching's number is each one's. Plain Lean. -/
namespace Ma
/-! ### counting -/
theorem countP_le_of {p q : Nat → Bool} : ∀ (l : List Nat), (∀ x ∈ l, p x = true → q x = true) → l.countP p ≤ l.countP q
  | [], _ => Nat.le_refl _
  | a :: l, h => by
    rw [List.countP_cons, List.countP_cons]
    have ih := countP_le_of l fun x hx => h x (List.mem_cons_of_mem _ hx)
    have ha := h a List.mem_cons_self
    cases ep : p a with
    | false =>
      simp
      omega
    | true =>
      rw [ha ep]
      simp
      omega
theorem countP_lt_of {p q : Nat → Bool} : ∀ (l : List Nat), (∀ x ∈ l, p x = true → q x = true) → ∀ b ∈ l, p b = false → q b = true → l.countP p < l.countP q
  | [], _, b, hb, _, _ => by cases hb
  | a :: l, h, b, hb, h1, h2 => by
    rw [List.countP_cons, List.countP_cons]
    have ha := h a List.mem_cons_self
    rcases List.mem_cons.mp hb with e | e
    · subst e
      have ih := countP_le_of l fun x hx => h x (List.mem_cons_of_mem _ hx)
      rw [h1, h2]
      simp
      omega
    · have ih := countP_lt_of l (fun x hx => h x (List.mem_cons_of_mem _ hx)) b e h1 h2
      cases ep : p a with
      | false =>
        simp
        omega
      | true =>
        rw [ha ep]
        simp
        omega
theorem nd_map {f : Nat → Nat} {l : List Nat} (h : l.Nodup) (hi : ∀ x ∈ l, ∀ y ∈ l, f x = f y → x = y) : (l.map f).Nodup := by
  unfold List.Nodup at h ⊢
  rw [List.pairwise_map]
  refine List.Pairwise.imp_of_mem (fun {a b} ha hb hab z => hab (hi a ha b hb z)) h
theorem nd_range (n : Nat) : (List.range n).Nodup := List.nodup_range
theorem nd_filter {p : Nat → Bool} {l : List Nat} (h : l.Nodup) : (l.filter p).Nodup := List.Pairwise.filter p h

/-! ### what is known of the lines and of the matching -/
structure Gr (G : Nat → List Nat) (n : Nat) : Prop where
  lt : ∀ l, ∀ r ∈ G l, r < n
  trans : ∀ a b c, b ∈ G a → c ∈ G b → c ∈ G a
  rank : ∃ ρ : Nat → Int, ∀ a b, b ∈ G a → ρ a < ρ b
structure Mt (G : Nat → List Nat) (n : Nat) (R L : Mp) : Prop where
  inv : ∀ l x, R l = some x ↔ L x = some l
  edge : ∀ l x, R l = some x → x ∈ G l
  dom : ∀ l x, R l = some x → l < n
  cl : ∃ Z Y : Nat → Prop, (∀ l, Z l → ∀ r ∈ G l, Y r) ∧ (∀ r, Y r → ∃ l, Z l ∧ L r = some l) ∧ ∀ l, l < n → R l = none → Z l
theorem mt_of {G : Nat → List Nat} {n : Nat} (g : Gr G n) : Mt G n (mUp G n n).1 (mUp G n n).2 := by
  have S := mUp_ok g.lt n
  exact ⟨S.mi.inv, S.mi.edge, S.dom, S.cl⟩

section
variable {G : Nat → List Nat} {n : Nat} {R L : Mp}
/-! ### chains -/
def chainO (R : Mp) : Nat → Option Nat → List Nat
  | _, none => []
  | 0, some _ => []
  | f + 1, some a => a :: chainO R f (R a)
def TermC (R : Mp) : Nat → Option Nat → Prop
  | _, none => True
  | 0, some _ => False
  | f + 1, some a => TermC R f (R a)
theorem TermC.none {f : Nat} : TermC R f Option.none := by cases f <;> exact True.intro
theorem chainO_none {f : Nat} : chainO R f Option.none = [] := by cases f <;> rfl
theorem TermC.mono : ∀ {f g : Nat} {o : Option Nat}, TermC R f o → f ≤ g → TermC R g o
  | _, _, Option.none, _, _ => TermC.none
  | 0, _, some _, h, _ => h.elim
  | f + 1, 0, some _, _, h => absurd h (by omega)
  | f + 1, g + 1, some a, h, hl => TermC.mono (f := f) (g := g) (o := R a) h (by omega)
def heads (L : Mp) (n : Nat) : List Nat := (List.range n).filter fun h => (L h).isNone
def chains (R L : Mp) (n : Nat) : List (List Nat) := (heads L n).map fun h => chainO R (n + 1) (some h)
theorem mem_heads {h : Nat} : h ∈ heads L n ↔ h < n ∧ L h = none := by
  unfold heads
  rw [List.mem_filter, List.mem_range, Option.isNone_iff_eq_none]

theorem Mt.rlt (M : Mt G n R L) (g : Gr G n) {l x : Nat} (h : R l = some x) : x < n := g.lt l x (M.edge l x h)
theorem Mt.term (M : Mt G n R L) (g : Gr G n) {ρ : Nat → Int} (hρ : ∀ a b, b ∈ G a → ρ a < ρ b) : ∀ (k a : Nat), (List.range n).countP (fun x => decide (ρ a < ρ x)) ≤ k → TermC R (k + 1) (some a) := by
  intro k
  induction k with
  | zero =>
    intro a h
    show TermC R 0 (R a)
    cases e : R a with
    | none => exact TermC.none
    | some b =>
      exfalso
      have h1 := hρ a b (M.edge a b e)
      have : 0 < (List.range n).countP (fun x => decide (ρ a < ρ x)) := List.countP_pos_iff.mpr ⟨b, List.mem_range.mpr (M.rlt g e), decide_eq_true h1⟩
      omega
  | succ k ih =>
    intro a h
    show TermC R (k + 1) (R a)
    cases e : R a with
    | none => exact TermC.none
    | some b =>
      have h1 := hρ a b (M.edge a b e)
      refine ih b ?_
      have : (List.range n).countP (fun x => decide (ρ b < ρ x)) < (List.range n).countP (fun x => decide (ρ a < ρ x)) :=
        countP_lt_of _ (fun x _ hx => decide_eq_true (Int.lt_trans h1 (of_decide_eq_true hx))) b (List.mem_range.mpr (M.rlt g e)) (decide_eq_false (Int.lt_irrefl _)) (decide_eq_true h1)
      omega
theorem Mt.termC (M : Mt G n R L) (g : Gr G n) (a : Nat) : TermC R (n + 1) (some a) := by
  obtain ⟨ρ, hρ⟩ := g.rank
  refine M.term g hρ n a ?_
  have := List.countP_le_length (p := fun x => decide (ρ a < ρ x)) (l := List.range n)
  rwa [List.length_range] at this
theorem chain_mem (M : Mt G n R L) (g : Gr G n) : ∀ (f : Nat) (o : Option Nat), (∀ a, o = some a → a < n) → ∀ y ∈ chainO R f o, y < n
  | _, none, _, y, hy => by
    rw [chainO_none] at hy
    cases hy
  | 0, some _, _, y, hy => by cases hy
  | f + 1, some a, h, y, hy => by
    rcases List.mem_cons.mp (show y ∈ a :: chainO R f (R a) from hy) with e | e
    · rw [e]
      exact h a rfl
    · exact chain_mem M g f (R a) (fun b hb => M.rlt g hb) y e
theorem count_in (M : Mt G n R L) {x p : Nat} (hx : L x = some p) : ∀ (f : Nat) (o : Option Nat), TermC R f o → (chainO R f o).count x = (chainO R f o).count p + if o = some x then 1 else 0
  | f, none, _ => by
    rw [chainO_none]
    rfl
  | 0, some _, h => h.elim
  | f + 1, some a, h => by
    have ih := count_in M hx f (R a) h
    show (a :: chainO R f (R a)).count x = (a :: chainO R f (R a)).count p + _
    rw [List.count_cons, List.count_cons, ih]
    have e1 : (R a = some x) ↔ a = p := by
      rw [M.inv, hx]
      exact ⟨fun z => (Option.some.inj z).symm, fun z => by rw [z]⟩
    by_cases c1 : a = p
    · rw [if_pos (e1.2 c1)]
      by_cases c2 : a = x
      · simp [c1, c2]
        try omega
      · have c3 : ¬ (some a = some x) := fun z => c2 (Option.some.inj z)
        rw [if_neg c3]
        simp [c1]
        intro z
        exact absurd (c1.trans z) c2
    · have c4 : ¬ R a = some x := fun z => c1 (e1.1 z)
      rw [if_neg c4]
      by_cases c2 : a = x
      · subst c2
        simp [c1]
      · have c3 : ¬ (some a = some x) := fun z => c2 (Option.some.inj z)
        rw [if_neg c3]
        simp [c1, c2]
theorem count_head (M : Mt G n R L) {x : Nat} (hx : L x = none) : ∀ (f : Nat) (o : Option Nat), TermC R f o → (chainO R f o).count x = if o = some x then 1 else 0
  | f, none, _ => by
    rw [chainO_none]
    rfl
  | 0, some _, h => h.elim
  | f + 1, some a, h => by
    have ih := count_head M hx f (R a) h
    show (a :: chainO R f (R a)).count x = _
    have c4 : ¬ R a = some x := fun z => by
      have := (M.inv a x).1 z
      rw [hx] at this
      cases this
    rw [List.count_cons, ih, if_neg c4]
    by_cases c2 : a = x
    · subst c2
      simp
    · have c3 : ¬ (some a = some x) := fun z => c2 (Option.some.inj z)
      rw [if_neg c3]
      simp [c2]
theorem sum_congr {α : Type} {f g : α → Nat} : ∀ (l : List α), (∀ x ∈ l, f x = g x) → (l.map f).sum = (l.map g).sum
  | [], _ => rfl
  | a :: l, h => by
    rw [List.map_cons, List.map_cons, List.sum_cons, List.sum_cons, h a List.mem_cons_self, sum_congr l fun x hx => h x (List.mem_cons_of_mem _ hx)]
theorem sum_one {x : Nat} : ∀ (l : List Nat), l.Nodup → x ∈ l → (l.map fun h => if some h = some x then 1 else 0).sum = 1
  | [], _, h => by cases h
  | a :: l, nd, h => by
    obtain ⟨h1, h2⟩ := List.nodup_cons.mp nd
    rw [List.map_cons, List.sum_cons]
    by_cases e : a = x
    · subst e
      have : (l.map fun h => if some h = some a then 1 else 0).sum = (l.map fun _ => 0).sum := sum_congr l fun y hy => if_neg (show ¬ (some y = some a) from fun z => h1 (by rw [← Option.some.inj z]; exact hy))
      rw [this, if_pos rfl]
      have z : ∀ l : List Nat, (l.map fun _ => 0).sum = 0 := fun l => by
        induction l with
        | nil => rfl
        | cons a l ih => rw [List.map_cons, List.sum_cons, ih]
      rw [z]
    · rw [if_neg fun z => e (Option.some.inj z), sum_one l h2 ((List.mem_cons.mp h).resolve_left fun z => e z.symm)]
theorem count_chains (M : Mt G n R L) (g : Gr G n) {ρ : Nat → Int} (hρ : ∀ a b, b ∈ G a → ρ a < ρ b) : ∀ (k x : Nat), x < n → (List.range n).countP (fun y => decide (ρ y < ρ x)) ≤ k → (chains R L n).flatten.count x = 1 := by
  have flat : ∀ x, (chains R L n).flatten.count x = ((heads L n).map fun h => (chainO R (n + 1) (some h)).count x).sum := fun x => by
    rw [List.count_flatten]
    unfold chains
    rw [List.map_map]
    rfl
  intro k
  induction k with
  | zero =>
    intro x hx h
    have hl : L x = none := by
      cases e : L x with
      | none => rfl
      | some p =>
        exfalso
        have e2 := (M.inv p x).2 e
        have : 0 < (List.range n).countP (fun y => decide (ρ y < ρ x)) := List.countP_pos_iff.mpr ⟨p, List.mem_range.mpr (M.dom p x e2), decide_eq_true (hρ p x (M.edge p x e2))⟩
        omega
    rw [flat, sum_congr _ fun h _ => count_head M hl (n + 1) (some h) (M.termC g h)]
    exact sum_one _ (nd_filter (nd_range n)) (mem_heads.2 ⟨hx, hl⟩)
  | succ k ih =>
    intro x hx h
    cases e : L x with
    | none =>
      rw [flat, sum_congr _ fun h _ => count_head M e (n + 1) (some h) (M.termC g h)]
      exact sum_one _ (nd_filter (nd_range n)) (mem_heads.2 ⟨hx, e⟩)
    | some p =>
      have e2 := (M.inv p x).2 e
      have h1 := hρ p x (M.edge p x e2)
      have hp := M.dom p x e2
      have lt : (List.range n).countP (fun y => decide (ρ y < ρ p)) < (List.range n).countP (fun y => decide (ρ y < ρ x)) :=
        countP_lt_of _ (fun y _ hy => decide_eq_true (Int.lt_trans (of_decide_eq_true hy) h1)) p (List.mem_range.mpr hp) (decide_eq_false (Int.lt_irrefl _)) (decide_eq_true h1)
      rw [← ih p hp (by omega), flat, flat]
      refine sum_congr _ fun h hh => ?_
      rw [count_in M e (n + 1) (some h) (M.termC g h), if_neg fun z => ?_, Nat.add_zero]
      have := (mem_heads.1 hh).2
      rw [Option.some.inj z, e] at this
      cases this
theorem chains_perm (M : Mt G n R L) (g : Gr G n) : (chains R L n).flatten.Perm (List.range n) := by
  obtain ⟨ρ, hρ⟩ := g.rank
  rw [List.perm_iff_count]
  intro x
  by_cases hx : x < n
  · rw [count_chains M g hρ _ x hx (Nat.le_refl _)]
    rw [(nd_range n).count, if_pos (List.mem_range.mpr hx)]
  · rw [List.count_eq_zero_of_not_mem (fun z => hx (List.mem_range.mp z)), List.count_eq_zero_of_not_mem]
    intro z
    obtain ⟨c, hc, hx2⟩ := List.mem_flatten.mp z
    obtain ⟨h, hh, e⟩ := List.mem_map.mp hc
    subst e
    exact hx (chain_mem M g (n + 1) (some h) (fun a ha => by rw [← Option.some.inj ha]; exact (mem_heads.1 hh).1) x hx2)
theorem chain_pair (M : Mt G n R L) (g : Gr G n) : ∀ (f : Nat) (o : Option Nat), (chainO R f o).Pairwise (fun a b => b ∈ G a) ∧ ∀ a, R a = o → ∀ y ∈ chainO R f o, y ∈ G a
  | f, none => by
    rw [chainO_none]
    exact ⟨List.Pairwise.nil, fun _ _ _ z => by cases z⟩
  | 0, some _ => ⟨List.Pairwise.nil, fun _ _ _ z => by cases z⟩
  | f + 1, some b => by
    obtain ⟨h1, h2⟩ := chain_pair M g f (R b)
    show (b :: chainO R f (R b)).Pairwise (fun a b => b ∈ G a) ∧ ∀ a, R a = some b → ∀ y ∈ b :: chainO R f (R b), y ∈ G a
    refine ⟨List.pairwise_cons.mpr ⟨h2 b rfl, h1⟩, fun a ha y hy => ?_⟩
    rcases List.mem_cons.mp hy with e | e
    · rw [e]
      exact M.edge a b ha
    · exact g.trans a b y (M.edge a b ha) (h2 b rfl y e)
/-! ### no clash is longer than the chains are many -/
def Anti (G : Nat → List Nat) (S : List Nat) : Prop := ∀ x ∈ S, ∀ y ∈ S, y ∉ G x
theorem one_in {S : List Nat} (hS : Anti G S) : ∀ l : List Nat, l.Pairwise (fun a b => b ∈ G a) → l.countP (fun x => decide (x ∈ S)) ≤ 1
  | [], _ => Nat.zero_le _
  | a :: l, h => by
    obtain ⟨h1, h2⟩ := List.pairwise_cons.mp h
    rw [List.countP_cons]
    by_cases e : a ∈ S
    · have z : l.countP (fun x => decide (x ∈ S)) = 0 := List.countP_eq_zero.mpr fun y hy w => hS a e y (of_decide_eq_true w) (h1 y hy)
      rw [z]
      split <;> omega
    · have := one_in hS l h2
      rw [if_neg (by simpa using e)]
      exact this
theorem sum_le_len : ∀ (l : List Nat), (∀ x ∈ l, x ≤ 1) → l.sum ≤ l.length
  | [], _ => Nat.le_refl _
  | a :: l, h => by
    rw [List.sum_cons, List.length_cons]
    have := sum_le_len l fun x hx => h x (List.mem_cons_of_mem _ hx)
    have := h a List.mem_cons_self
    omega
theorem anti_le (M : Mt G n R L) (g : Gr G n) {S : List Nat} (nd : S.Nodup) (lt : ∀ x ∈ S, x < n) (hS : Anti G S) : S.length ≤ (chains R L n).length := by
  have p := chains_perm M g
  have h1 : S.length ≤ ((chains R L n).flatten.filter fun x => decide (x ∈ S)).length :=
    List.Nodup.length_le_of_subset nd fun x hx => List.mem_filter.mpr ⟨p.mem_iff.mpr (List.mem_range.mpr (lt x hx)), decide_eq_true hx⟩
  rw [← List.countP_eq_length_filter, List.countP_flatten] at h1
  refine Nat.le_trans h1 (Nat.le_trans (sum_le_len _ fun x hx => ?_) (by rw [List.length_map]; exact Nat.le_refl _))
  obtain ⟨c, hc, e⟩ := List.mem_map.mp hx
  obtain ⟨h, _, e2⟩ := List.mem_map.mp hc
  subst e
  subst e2
  exact one_in hS _ (chain_pair M g (n + 1) (some h)).1
/-! ### how many -/
theorem count_dom (M : Mt G n R L) (g : Gr G n) : (List.range n).countP (fun x => (R x).isSome) = (List.range n).countP (fun x => (L x).isSome) := by
  refine Nat.le_antisymm ?_ ?_
  · rw [List.countP_eq_length_filter, List.countP_eq_length_filter]
    have nd : (((List.range n).filter fun x => (R x).isSome).map fun x => (R x).getD 0).Nodup := nd_map (nd_filter (nd_range n)) fun x hx y hy e => by
      obtain ⟨a, ha⟩ := Option.isSome_iff_exists.mp (List.mem_filter.mp hx).2
      obtain ⟨b, hb⟩ := Option.isSome_iff_exists.mp (List.mem_filter.mp hy).2
      rw [ha, hb] at e
      have e : a = b := e
      subst e
      have h1 := (M.inv _ _).1 ha
      rw [(M.inv _ _).1 hb] at h1
      exact (Option.some.inj h1).symm
    have := List.Nodup.length_le_of_subset nd (l₂ := (List.range n).filter fun x => (L x).isSome) fun z hz => by
      obtain ⟨x, hx, e⟩ := List.mem_map.mp hz
      obtain ⟨a, ha⟩ := Option.isSome_iff_exists.mp (List.mem_filter.mp hx).2
      rw [ha] at e
      have e : a = z := e
      subst e
      exact List.mem_filter.mpr ⟨List.mem_range.mpr (M.rlt g ha), by rw [(M.inv _ _).1 ha]; rfl⟩
    rwa [List.length_map] at this
  · rw [List.countP_eq_length_filter, List.countP_eq_length_filter]
    have nd : (((List.range n).filter fun x => (L x).isSome).map fun x => (L x).getD 0).Nodup := nd_map (nd_filter (nd_range n)) fun x hx y hy e => by
      obtain ⟨a, ha⟩ := Option.isSome_iff_exists.mp (List.mem_filter.mp hx).2
      obtain ⟨b, hb⟩ := Option.isSome_iff_exists.mp (List.mem_filter.mp hy).2
      rw [ha, hb] at e
      have e : a = b := e
      subst e
      have h1 := (M.inv _ _).2 ha
      rw [(M.inv _ _).2 hb] at h1
      exact (Option.some.inj h1).symm
    have := List.Nodup.length_le_of_subset nd (l₂ := (List.range n).filter fun x => (R x).isSome) fun z hz => by
      obtain ⟨x, hx, e⟩ := List.mem_map.mp hz
      obtain ⟨a, ha⟩ := Option.isSome_iff_exists.mp (List.mem_filter.mp hx).2
      rw [ha] at e
      have e : a = z := e
      subst e
      have h1 := (M.inv _ _).2 ha
      exact List.mem_filter.mpr ⟨List.mem_range.mpr (M.dom _ _ h1), by rw [h1]; rfl⟩
    rwa [List.length_map] at this
theorem count_none (S : Mp) : ∀ l : List Nat, l.countP (fun x => (S x).isNone) + l.countP (fun x => (S x).isSome) = l.length
  | [] => rfl
  | a :: l => by
    have := count_none S l
    rw [List.countP_cons, List.countP_cons, List.length_cons]
    cases S a <;> simp <;> omega
theorem chains_len (M : Mt G n R L) (g : Gr G n) : (chains R L n).length + (List.range n).countP (fun x => (R x).isSome) = n := by
  unfold chains heads
  rw [List.length_map, ← List.countP_eq_length_filter, count_dom M g, count_none, List.length_range]

/-! ### the clash -/
def scanA (L : Mp) : List Nat → List Nat → List Nat → List Nat × List Nat
  | [], q, y => (q, y)
  | r :: rs, q, y => if r ∈ y then scanA L rs q y else match L r with
    | none => scanA L rs q (y ++ [r])
    | some p => if p ∈ q then scanA L rs q (y ++ [r]) else scanA L rs (q ++ [p]) (y ++ [r])
def apLoop (G : Nat → List Nat) (L : Mp) : Nat → Nat → List Nat → List Nat → List Nat × List Nat
  | 0, _, q, y => (q, y)
  | f + 1, a, q, y => match q[a]? with
    | none => (q, y)
    | some l => apLoop G L f (a + 1) (scanA L (G l) q y).1 (scanA L (G l) q y).2
def free0 (R : Mp) (n : Nat) : List Nat := (List.range n).filter fun x => (R x).isNone
def apQ (G : Nat → List Nat) (R L : Mp) (n : Nat) : List Nat × List Nat := apLoop G L (n + 1) 0 (free0 R n) []
def apart (G : Nat → List Nat) (R L : Mp) (n : Nat) : List Nat := (List.range n).filter fun i => decide (i ∈ (apQ G R L n).1) && !decide (i ∈ (apQ G R L n).2)
structure AI (n : Nat) (R L : Mp) (Z Y : Nat → Prop) (q y : List Nat) : Prop where
  qe : q = free0 R n ++ y.map fun r => (L r).getD 0
  yn : y.Nodup
  yY : ∀ r ∈ y, Y r
  qZ : ∀ l ∈ q, Z l
  ql : ∀ l ∈ q, l < n
theorem AI.qnd {Z Y : Nat → Prop} {q y : List Nat} (M : Mt G n R L) (hY : ∀ r, Y r → ∃ l, Z l ∧ L r = some l) (A : AI n R L Z Y q y) : q.Nodup := by
  rw [A.qe]
  refine List.nodup_append.mpr ⟨nd_filter (nd_range n), nd_map A.yn fun a ha b hb e => ?_, fun a ha b hb e => ?_⟩
  · obtain ⟨l1, _, w1⟩ := hY a (A.yY a ha)
    obtain ⟨l2, _, w2⟩ := hY b (A.yY b hb)
    rw [w1, w2] at e
    have e : l1 = l2 := e
    subst e
    have h1 := (M.inv _ _).2 w1
    rw [(M.inv _ _).2 w2] at h1
    exact (Option.some.inj h1).symm
  · obtain ⟨r, hr, e2⟩ := List.mem_map.mp hb
    obtain ⟨l1, _, w1⟩ := hY r (A.yY r hr)
    rw [w1] at e2
    have e2 : l1 = b := e2
    have h1 := (M.inv _ _).2 w1
    have h2 := (List.mem_filter.mp ha).2
    rw [e, ← e2, h1] at h2
    cases h2
theorem scanA_ok (M : Mt G n R L) {Z Y : Nat → Prop} (hY : ∀ r, Y r → ∃ l, Z l ∧ L r = some l) : ∀ (rs q y : List Nat), AI n R L Z Y q y → (∀ r ∈ rs, Y r) →
    AI n R L Z Y (scanA L rs q y).1 (scanA L rs q y).2 ∧ (∀ r ∈ rs, r ∈ (scanA L rs q y).2) ∧ (∀ r ∈ y, r ∈ (scanA L rs q y).2) ∧ ∃ t, (scanA L rs q y).1 = q ++ t
  | [], q, y, A, _ => ⟨A, fun _ z => (nomatch z), fun _ z => z, [], by simp [scanA]⟩
  | r :: rs, q, y, A, h => by
    by_cases e : r ∈ y
    · have e0 : scanA L (r :: rs) q y = scanA L rs q y := if_pos e
      rw [e0]
      obtain ⟨a1, a2, a3, a4⟩ := scanA_ok M hY rs q y A fun x hx => h x (List.mem_cons_of_mem _ hx)
      refine ⟨a1, fun x hx => ?_, a3, a4⟩
      rcases List.mem_cons.mp hx with z | z
      · exact a3 x (z ▸ e)
      · exact a2 x z
    · obtain ⟨p, hp1, hp2⟩ := hY r (h r List.mem_cons_self)
      have hR := (M.inv _ _).2 hp2
      have np : p ∉ q := fun z => by
        rw [A.qe] at z
        rcases List.mem_append.mp z with z | z
        · have := (List.mem_filter.mp z).2
          rw [hR] at this
          cases this
        · obtain ⟨r2, hr2, e2⟩ := List.mem_map.mp z
          obtain ⟨l1, _, w1⟩ := hY r2 (A.yY r2 hr2)
          rw [w1] at e2
          have e2 : l1 = p := e2
          subst e2
          have h1 := (M.inv _ _).2 w1
          rw [hR] at h1
          cases h1
          exact e hr2
      have e0 : scanA L (r :: rs) q y = scanA L rs (q ++ [p]) (y ++ [r]) := by
        show (if r ∈ y then scanA L rs q y else match L r with | none => scanA L rs q (y ++ [r]) | some p => if p ∈ q then scanA L rs q (y ++ [r]) else scanA L rs (q ++ [p]) (y ++ [r])) = _
        rw [if_neg e, hp2]
        exact if_neg np
      rw [e0]
      have A2 : AI n R L Z Y (q ++ [p]) (y ++ [r]) := by
        refine ⟨?_, ?_, fun x hx => ?_, fun x hx => ?_, fun x hx => ?_⟩
        · rw [A.qe, List.map_append, List.append_assoc]
          show _ = free0 R n ++ (_ ++ [(L r).getD 0])
          rw [hp2]
          rfl
        · refine List.nodup_append.mpr ⟨A.yn, by simp, fun a ha b hb w => e ?_⟩
          rw [← List.mem_singleton.mp hb, ← w]
          exact ha
        · rcases List.mem_append.mp hx with z | z
          · exact A.yY x z
          · rw [List.mem_singleton.mp z]
            exact h r List.mem_cons_self
        · rcases List.mem_append.mp hx with z | z
          · exact A.qZ x z
          · rw [List.mem_singleton.mp z]
            exact hp1
        · rcases List.mem_append.mp hx with z | z
          · exact A.ql x z
          · rw [List.mem_singleton.mp z]
            exact M.dom _ _ hR
      obtain ⟨a1, a2, a3, t, a4⟩ := scanA_ok M hY rs (q ++ [p]) (y ++ [r]) A2 fun x hx => h x (List.mem_cons_of_mem _ hx)
      refine ⟨a1, fun x hx => ?_, fun x hx => a3 x (List.mem_append_left _ hx), [p] ++ t, by rw [a4, List.append_assoc]⟩
      rcases List.mem_cons.mp hx with z | z
      · exact a3 x (by rw [z]; simp)
      · exact a2 x z
theorem apLoop_ok (M : Mt G n R L) {Z Y : Nat → Prop} (hZ : ∀ l, Z l → ∀ r ∈ G l, Y r) (hY : ∀ r, Y r → ∃ l, Z l ∧ L r = some l) : ∀ (f a : Nat) (q y : List Nat), AI n R L Z Y q y → (∀ (j l : Nat), j < a → q[j]? = some l → ∀ r ∈ G l, r ∈ y) → f + a = n + 1 → a ≤ q.length →
    AI n R L Z Y (apLoop G L f a q y).1 (apLoop G L f a q y).2 ∧ ∀ l ∈ (apLoop G L f a q y).1, ∀ r ∈ G l, r ∈ (apLoop G L f a q y).2 := by
  intro f
  induction f with
  | zero =>
    intro a q y A D hf ha
    have := nodup_le n q (A.qnd M hY) A.ql
    omega
  | succ f ih =>
    intro a q y A D hf ha
    have e0 : apLoop G L (f + 1) a q y = (match q[a]? with | none => (q, y) | some l => apLoop G L f (a + 1) (scanA L (G l) q y).1 (scanA L (G l) q y).2) := rfl
    rw [e0]
    cases e : q[a]? with
    | none =>
      have hle : q.length ≤ a := List.getElem?_eq_none_iff.mp e
      refine ⟨A, fun l hl r hr => ?_⟩
      obtain ⟨j, hj⟩ := List.mem_iff_getElem?.mp hl
      exact D j l (Nat.lt_of_lt_of_le (List.getElem?_eq_some_iff.mp hj).1 hle) hj r hr
    | some l =>
      have hal : a < q.length := (List.getElem?_eq_some_iff.mp e).1
      obtain ⟨a1, a2, a3, t, a4⟩ := scanA_ok M hY (G l) q y A fun r hr => hZ l (A.qZ l (List.mem_of_getElem? e)) r hr
      refine ih (a + 1) _ _ a1 (fun j l2 hj hl2 r hr => ?_) (by omega) (by rw [a4, List.length_append]; omega)
      rw [a4, List.getElem?_append_left (by omega)] at hl2
      by_cases ej : j = a
      · subst ej
        rw [e] at hl2
        cases hl2
        exact a2 r hr
      · exact a3 r (D j l2 (by omega) hl2 r hr)
theorem AI.start {Z Y : Nat → Prop} (hF : ∀ l, l < n → R l = none → Z l) : AI n R L Z Y (free0 R n) [] := by
  refine ⟨by simp, List.nodup_nil, fun _ z => (nomatch z), fun l hl => ?_, fun l hl => ?_⟩
  · obtain ⟨h1, h2⟩ := List.mem_filter.mp hl
    exact hF l (List.mem_range.mp h1) (Option.isNone_iff_eq_none.mp h2)
  · exact List.mem_range.mp (List.mem_filter.mp hl).1
theorem apart_anti (M : Mt G n R L) (g : Gr G n) : (apart G R L n).Nodup ∧ (∀ x ∈ apart G R L n, x < n) ∧ Anti G (apart G R L n) := by
  obtain ⟨Z, Y, h1, h2, h3⟩ := M.cl
  obtain ⟨A, D⟩ := apLoop_ok M h1 h2 (n + 1) 0 (free0 R n) [] (AI.start h3) (fun j l hj => absurd hj (by omega)) rfl (Nat.zero_le _)
  refine ⟨nd_filter (nd_range n), fun x hx => List.mem_range.mp (List.mem_filter.mp hx).1, fun x hx y hy hxy => ?_⟩
  have e1 := (List.mem_filter.mp hx).2
  have e2 := (List.mem_filter.mp hy).2
  rw [Bool.and_eq_true] at e1 e2
  have e3 := D x (of_decide_eq_true e1.1) y hxy
  have e4 : (!decide (y ∈ (apQ G R L n).2)) = false := by
    rw [decide_eq_true (show y ∈ (apQ G R L n).2 from e3)]
    rfl
  rw [e4] at e2
  cases e2.2
theorem apart_ge (M : Mt G n R L) (g : Gr G n) : (chains R L n).length ≤ (apart G R L n).length := by
  obtain ⟨Z, Y, h1, h2, h3⟩ := M.cl
  obtain ⟨A, D⟩ := apLoop_ok M h1 h2 (n + 1) 0 (free0 R n) [] (AI.start h3) (fun j l hj => absurd hj (by omega)) rfl (Nat.zero_le _)
  have A' : AI n R L Z Y (apQ G R L n).1 (apQ G R L n).2 := A
  have q1 : (apQ G R L n).1.length = (free0 R n).length + (apQ G R L n).2.length := by
    have := congrArg List.length A'.qe
    rw [List.length_append, List.length_map] at this
    exact this
  have q2 : (apQ G R L n).1.length ≤ ((List.range n).filter fun x => decide (x ∈ (apQ G R L n).1)).length := List.Nodup.length_le_of_subset (A'.qnd M h2) fun x hx => List.mem_filter.mpr ⟨List.mem_range.mpr (A'.ql x hx), decide_eq_true hx⟩
  have q3 : ((List.range n).filter fun x => decide (x ∈ (apQ G R L n).2)).length ≤ (apQ G R L n).2.length := List.Nodup.length_le_of_subset (nd_filter (nd_range n)) fun x hx => of_decide_eq_true (List.mem_filter.mp hx).2
  have q4 : (List.range n).countP (fun x => decide (x ∈ (apQ G R L n).1)) ≤ (List.range n).countP (fun i => decide (i ∈ (apQ G R L n).1) && !decide (i ∈ (apQ G R L n).2)) + (List.range n).countP (fun x => decide (x ∈ (apQ G R L n).2)) := by
    generalize List.range n = l
    induction l with
    | nil => exact Nat.le_refl _
    | cons a l ih =>
      rw [List.countP_cons, List.countP_cons, List.countP_cons]
      by_cases c1 : a ∈ (apQ G R L n).1 <;> by_cases c2 : a ∈ (apQ G R L n).2 <;> simp [c1, c2] <;> omega
  have q5 : (free0 R n).length + (List.range n).countP (fun x => (R x).isSome) = n := by
    unfold free0
    rw [← List.countP_eq_length_filter, count_none, List.length_range]
  have q6 := chains_len M g
  rw [List.countP_eq_length_filter, List.countP_eq_length_filter, List.countP_eq_length_filter] at q4
  unfold apart
  omega
theorem apart_len (M : Mt G n R L) (g : Gr G n) : (apart G R L n).length = (chains R L n).length := by
  obtain ⟨a1, a2, a3⟩ := apart_anti M g
  exact Nat.le_antisymm (anti_le M g a1 a2 a3) (apart_ge M g)

/-! ### the greatest of all clashes -/
def rowOk (ld : Nat → Nat → Bool) (k : Nat) (row : List Nat) : Bool := row.all fun j => !(ld j k || ld k j)
def grow (ld : Nat → Nat → Bool) : Nat → List (List Nat)
  | 0 => [[]]
  | k + 1 => grow ld k ++ ((grow ld k).filter (rowOk ld k)).map fun row => row ++ [k]
theorem grow_anti {ld : Nat → Nat → Bool} (hl : ∀ a b, ld a b = true ↔ b ∈ G a) (g : Gr G n) : ∀ k, ∀ row ∈ grow ld k, row.Nodup ∧ (∀ x ∈ row, x < k) ∧ Anti G row
  | 0, row, h => by
    have e : row = [] := List.mem_singleton.mp h
    subst e
    exact ⟨List.nodup_nil, fun _ z => (nomatch z), fun _ z => (nomatch z)⟩
  | k + 1, row, h => by
    rcases List.mem_append.mp (show row ∈ grow ld k ++ ((grow ld k).filter (rowOk ld k)).map fun row => row ++ [k] from h) with z | z
    · obtain ⟨a1, a2, a3⟩ := grow_anti hl g k row z
      exact ⟨a1, fun x hx => Nat.lt_succ_of_lt (a2 x hx), a3⟩
    · obtain ⟨r0, hr, e⟩ := List.mem_map.mp z
      subst e
      obtain ⟨h1, h2⟩ := List.mem_filter.mp hr
      obtain ⟨a1, a2, a3⟩ := grow_anti hl g k r0 h1
      have ok : ∀ j ∈ r0, ld j k = false ∧ ld k j = false := fun j hj => by
        have := List.all_eq_true.mp h2 j hj
        cases e1 : ld j k <;> cases e2 : ld k j <;> rw [e1, e2] at this <;> first | exact ⟨rfl, rfl⟩ | cases this
      obtain ⟨ρ, hρ⟩ := g.rank
      refine ⟨List.nodup_append.mpr ⟨a1, by simp, fun a ha b hb w => ?_⟩, fun x hx => ?_, fun x hx y hy hxy => ?_⟩
      · have := a2 a ha
        rw [w, List.mem_singleton.mp hb] at this
        omega
      · rcases List.mem_append.mp hx with w | w
        · exact Nat.lt_succ_of_lt (a2 x w)
        · rw [List.mem_singleton.mp w]
          exact Nat.lt_succ_self _
      · rcases List.mem_append.mp hx with w | w <;> rcases List.mem_append.mp hy with v | v
        · exact a3 x w y v hxy
        · rw [List.mem_singleton.mp v] at hxy
          have := (hl x k).2 hxy
          rw [(ok x w).1] at this
          cases this
        · rw [List.mem_singleton.mp w] at hxy
          have := (hl k y).2 hxy
          rw [(ok y v).2] at this
          cases this
        · rw [List.mem_singleton.mp w, List.mem_singleton.mp v] at hxy
          exact Int.lt_irrefl _ (hρ k k hxy)
theorem grow_has {ld : Nat → Nat → Bool} (hl : ∀ a b, ld a b = true ↔ b ∈ G a) {p : Nat → Bool} {n : Nat} (hp : Anti G ((List.range n).filter p)) : ∀ k, k ≤ n → (List.range k).filter p ∈ grow ld k
  | 0, _ => by simp [grow]
  | k + 1, hk => by
    have ih := grow_has hl hp k (by omega)
    rw [List.range_succ, List.filter_append]
    show _ ∈ grow ld k ++ ((grow ld k).filter (rowOk ld k)).map fun row => row ++ [k]
    by_cases e : p k = true
    · have e1 : [k].filter p = [k] := by simp [e]
      rw [e1]
      refine List.mem_append_right _ (List.mem_map.mpr ⟨_, List.mem_filter.mpr ⟨ih, ?_⟩, rfl⟩)
      refine List.all_eq_true.mpr fun j hj => ?_
      obtain ⟨j1, j2⟩ := List.mem_filter.mp hj
      have j1 := List.mem_range.mp j1
      have mj : j ∈ (List.range n).filter p := List.mem_filter.mpr ⟨List.mem_range.mpr (by omega), j2⟩
      have mk : k ∈ (List.range n).filter p := List.mem_filter.mpr ⟨List.mem_range.mpr (by omega), e⟩
      have n1 : ld j k = false := by
        cases q : ld j k with
        | false => rfl
        | true => exact absurd ((hl j k).1 q) (hp j mj k mk)
      have n2 : ld k j = false := by
        cases q : ld k j with
        | false => rfl
        | true => exact absurd ((hl k j).1 q) (hp k mk j mj)
      rw [n1, n2]
      rfl
    · have e1 : [k].filter p = [] := by simp [e]
      rw [e1, List.append_nil]
      exact List.mem_append_left _ ih
/-- the greatest length -/
theorem greatest_eq (M : Mt G n R L) (g : Gr G n) {ld : Nat → Nat → Bool} (hl : ∀ a b, ld a b = true ↔ b ∈ G a) {m : Nat} (hm : ∃ row ∈ grow ld n, row.length = m) (hmax : ∀ row ∈ grow ld n, row.length ≤ m) : m = (chains R L n).length := by
  obtain ⟨row, h1, h2⟩ := hm
  obtain ⟨a1, a2, a3⟩ := grow_anti hl g n row h1
  obtain ⟨b1, b2, b3⟩ := apart_anti M g
  have := anti_le M g a1 a2 a3
  have := hmax _ (grow_has hl (p := fun i => decide (i ∈ (apQ G R L n).1) && !decide (i ∈ (apQ G R L n).2)) b3 n (Nat.le_refl _))
  have e : ((List.range n).filter fun i => decide (i ∈ (apQ G R L n).1) && !decide (i ∈ (apQ G R L n).2)).length = (apart G R L n).length := rfl
  have := apart_len M g
  omega
theorem grow_len (ld : Nat → Nat → Bool) : ∀ k, (grow ld k).length ≤ 2 ^ k
  | 0 => Nat.le_refl _
  | k + 1 => by
    show (grow ld k ++ ((grow ld k).filter (rowOk ld k)).map fun row => row ++ [k]).length ≤ _
    rw [List.length_append, List.length_map]
    have := grow_len ld k
    have := List.length_filter_le (rowOk ld k) (grow ld k)
    rw [Nat.pow_succ]
    omega
end
end Ma

set_option Elab.async false
set_option linter.all false
/-! Trees of places: ways up, distances, the least lateness (kappa), and that «leads» is an order. Plain Lean. -/
namespace Nt
structure Row (α : Type) where
  name : α
  elder : Option α
  er : Int
  de : Int
section
variable {α : Type} [DecidableEq α]
/-- rows, the latest first -/
inductive WF : List (Row α) → Prop where
  | base (a : α) (e : Int) (he : 0 ≤ e) : WF [⟨a, none, e, 0⟩]
  | step (a p : α) (e d : Int) (T : List (Row α)) (h : WF T) (hp : p ∈ T.map (·.name)) (ha : a ∉ T.map (·.name)) (he : 0 ≤ e) (hd : 0 ≤ d) : WF (⟨a, some p, e, d⟩ :: T)
def line : List (Row α) → α → List α
  | [], s => [s]
  | r :: T, s => if s = r.name then (match r.elder with
    | none => [s]
    | some e => s :: line T e) else line T s
def D : List (Row α) → α → α → Int
  | [], _, _ => 0
  | r :: T, a, b => if a = r.name then (if b = r.name then 0 else match r.elder with
    | none => 0
    | some e => D T e b + r.de) else if b = r.name then (match r.elder with
    | none => 0
    | some e => D T e a + r.de) else D T a b
def erOf : List (Row α) → α → Int
  | [], _ => 0
  | r :: T, x => if x = r.name then r.er else erOf T x
def deOf : List (Row α) → α → Int
  | [], _ => 0
  | r :: T, x => if x = r.name then r.de else deOf T x
def far (T : List (Row α)) (a b : α) : Int :=
  (((line T a).filter fun x => !decide (x ∈ line T b)) ++ ((line T b).filter fun x => !decide (x ∈ line T a))).map (deOf T) |>.sum
abbrev names (T : List (Row α)) : List α := T.map (·.name)

/-! ### lines -/
theorem line_self : ∀ (T : List (Row α)) (s : α), s ∈ line T s
  | [], s => List.mem_singleton.mpr rfl
  | r :: T, s => by
    unfold line
    split
    · split <;> simp
    · exact line_self T s
theorem line_new {r : Row α} {T : List (Row α)} {e : α} (h : r.elder = some e) : line (r :: T) r.name = r.name :: line T e := by
  conv => lhs; unfold line
  rw [if_pos rfl, h]
theorem line_old {r : Row α} {T : List (Row α)} {s : α} (h : s ≠ r.name) : line (r :: T) s = line T s := by
  conv => lhs; unfold line
  rw [if_neg h]
theorem line_in {T : List (Row α)} (W : WF T) : ∀ s ∈ names T, ∀ x ∈ line T s, x ∈ names T := by
  induction W with
  | base a e he =>
    intro s hs x hx
    have es : s = a := List.mem_singleton.mp hs
    subst es
    have : line [(⟨s, none, e, 0⟩ : Row α)] s = [s] := if_pos rfl
    rw [this] at hx
    exact hx
  | step a p e d T h hp ha he hd ih =>
    intro s hs x hx
    by_cases c : s = a
    · subst c
      rw [line_new (r := ⟨s, some p, e, d⟩) rfl] at hx
      rcases List.mem_cons.mp hx with z | z
      · rw [z]
        exact List.mem_cons_self
      · exact List.mem_cons_of_mem _ (ih p hp x z)
    · rw [line_old (r := ⟨a, some p, e, d⟩) c] at hx
      exact List.mem_cons_of_mem _ (ih s ((List.mem_cons.mp hs).resolve_left c) x hx)
theorem line_trans {T : List (Row α)} (W : WF T) : ∀ s ∈ names T, ∀ x ∈ line T s, ∀ y ∈ line T x, y ∈ line T s := by
  induction W with
  | base a e he =>
    intro s hs x hx y hy
    have es : s = a := List.mem_singleton.mp hs
    subst es
    have e1 : line [(⟨s, none, e, 0⟩ : Row α)] s = [s] := if_pos rfl
    rw [e1] at hx
    have := List.mem_singleton.mp hx
    subst this
    exact hy
  | step a p e d T h hp ha he hd ih =>
    intro s hs x hx y hy
    by_cases c : s = a
    · subst c
      rw [line_new (r := ⟨s, some p, e, d⟩) rfl] at hx ⊢
      rcases List.mem_cons.mp hx with z | z
      · subst z
        rw [line_new (r := ⟨x, some p, e, d⟩) rfl] at hy
        exact hy
      · have hx2 := line_in h p hp x z
        have c2 : x ≠ s := fun w => ha (w ▸ hx2)
        rw [line_old (r := ⟨s, some p, e, d⟩) c2] at hy
        exact List.mem_cons_of_mem _ (ih p hp x z y hy)
    · have hs2 := (List.mem_cons.mp hs).resolve_left c
      rw [line_old (r := ⟨a, some p, e, d⟩) c] at hx ⊢
      have hx2 := line_in h s hs2 x hx
      have c2 : x ≠ a := fun w => ha (w ▸ hx2)
      rw [line_old (r := ⟨a, some p, e, d⟩) c2] at hy
      exact ih s hs2 x hx y hy
theorem line_total {T : List (Row α)} (W : WF T) : ∀ j ∈ names T, ∀ u ∈ line T j, ∀ y ∈ line T j, u ∉ line T y → y ∈ line T u := by
  induction W with
  | base a e he =>
    intro j hj u hu y hy hn
    have es : j = a := List.mem_singleton.mp hj
    subst es
    have e1 : line [(⟨j, none, e, 0⟩ : Row α)] j = [j] := if_pos rfl
    rw [e1] at hu hy
    have h1 := List.mem_singleton.mp hu
    have h2 := List.mem_singleton.mp hy
    subst h1
    subst h2
    exact line_self _ _
  | step a p e d T h hp ha he hd ih =>
    intro j hj u hu y hy hn
    by_cases c : j = a
    · subst c
      have old : ∀ x ∈ line T p, line (⟨j, some p, e, d⟩ :: T) x = line T x := fun x hx => line_old (r := ⟨j, some p, e, d⟩) fun w => ha (by have w : x = j := w; rw [← w]; exact line_in h p hp x hx)
      rw [line_new (r := ⟨j, some p, e, d⟩) rfl] at hu hy
      rcases List.mem_cons.mp hy with z | z
      · have z : y = j := z
        subst z
        exact absurd (by rw [line_new (r := ⟨y, some p, e, d⟩) rfl]; exact hu) hn
      · rcases List.mem_cons.mp hu with v | v
        · have v : u = j := v
          subst v
          rw [line_new (r := ⟨u, some p, e, d⟩) rfl]
          exact List.mem_cons_of_mem _ z
        · rw [old y z] at hn
          rw [old u v]
          exact ih p hp u v y z hn
    · have hj2 := (List.mem_cons.mp hj).resolve_left c
      have old : ∀ x ∈ line T j, line (⟨a, some p, e, d⟩ :: T) x = line T x := fun x hx => line_old (r := ⟨a, some p, e, d⟩) fun w => ha (by have w : x = a := w; rw [← w]; exact line_in h j hj2 x hx)
      rw [line_old (r := ⟨a, some p, e, d⟩) c] at hu hy
      rw [old y hy] at hn
      rw [old u hu]
      exact ih j hj2 u hu y hy hn

/-! ### the distance as a sum over all places -/
def sumX (T : List (Row α)) (p : α → Bool) : Int := (T.map fun r => if p r.name = true then r.de else 0).sum
theorem sumX_cons (r : Row α) (T : List (Row α)) (p : α → Bool) : sumX (r :: T) p = (if p r.name = true then r.de else 0) + sumX T p := by
  unfold sumX
  rw [List.map_cons, List.sum_cons]
theorem sumX_congr {p q : α → Bool} : ∀ T : List (Row α), (∀ x ∈ names T, p x = q x) → sumX T p = sumX T q
  | [], _ => rfl
  | r :: T, h => by
    rw [sumX_cons, sumX_cons, h r.name List.mem_cons_self, sumX_congr T fun x hx => h x (List.mem_cons_of_mem _ hx)]
theorem sumX_zero {p : α → Bool} : ∀ T : List (Row α), (∀ x ∈ names T, p x = false) → sumX T p = 0
  | [], _ => rfl
  | r :: T, h => by
    rw [sumX_cons, h r.name List.mem_cons_self, sumX_zero T fun x hx => h x (List.mem_cons_of_mem _ hx)]
    rfl
theorem WF.de_nn {T : List (Row α)} (W : WF T) : ∀ r ∈ T, 0 ≤ r.de ∧ 0 ≤ r.er := by
  induction W with
  | base a e he =>
    intro r hr
    rw [List.mem_singleton.mp hr]
    exact ⟨Int.le_refl _, he⟩
  | step a p e d T h hp ha he hd ih =>
    intro r hr
    rcases List.mem_cons.mp hr with z | z
    · rw [z]
      exact ⟨hd, he⟩
    · exact ih r z
theorem sumX_le {p q s : α → Bool} : ∀ T : List (Row α), (∀ r ∈ T, 0 ≤ r.de) → (∀ x, p x = true → q x = true ∨ s x = true) → sumX T p ≤ sumX T q + sumX T s
  | [], _, _ => Int.le_refl _
  | r :: T, hd, h => by
    rw [sumX_cons, sumX_cons, sumX_cons]
    have ih := sumX_le (p := p) (q := q) (s := s) T (fun x hx => hd x (List.mem_cons_of_mem _ hx)) h
    have h0 := hd r List.mem_cons_self
    have h1 := h r.name
    cases e1 : p r.name <;> cases e2 : q r.name <;> cases e3 : s r.name <;> simp only [e1, e2, e3] at h1 ⊢ <;> simp at h1 ⊢ <;> omega
theorem sumX_mono {p q : α → Bool} : ∀ T : List (Row α), (∀ r ∈ T, 0 ≤ r.de) → (∀ x, p x = true → q x = true) → sumX T p ≤ sumX T q
  | [], _, _ => Int.le_refl _
  | r :: T, hd, h => by
    rw [sumX_cons, sumX_cons]
    have ih := sumX_mono (p := p) (q := q) T (fun x hx => hd x (List.mem_cons_of_mem _ hx)) h
    have h0 := hd r List.mem_cons_self
    have h1 := h r.name
    cases e1 : p r.name <;> cases e2 : q r.name <;> simp only [e1, e2] at h1 ⊢ <;> simp at h1 ⊢ <;> omega
theorem sumX_nn {p : α → Bool} : ∀ T : List (Row α), (∀ r ∈ T, 0 ≤ r.de) → 0 ≤ sumX T p
  | [], _ => Int.le_refl _
  | r :: T, hd => by
    rw [sumX_cons]
    have ih := sumX_nn (p := p) T fun x hx => hd x (List.mem_cons_of_mem _ hx)
    have h0 := hd r List.mem_cons_self
    split <;> omega
def xr (T : List (Row α)) (a b : α) : α → Bool := fun u => decide (u ∈ line T a) != decide (u ∈ line T b)
theorem D_sum {T : List (Row α)} (W : WF T) : ∀ a ∈ names T, ∀ b ∈ names T, D T a b = sumX T (xr T a b) := by
  induction W with
  | base a0 e he =>
    intro a ha b hb
    have e1 : a = a0 := List.mem_singleton.mp ha
    have e2 : b = a0 := List.mem_singleton.mp hb
    subst e1
    subst e2
    rw [sumX_zero _ fun x _ => by simp [xr]]
    unfold D
    rw [if_pos rfl, if_pos rfl]
  | step a0 p e d T h hp ha he hd ih =>
    intro a hA b hB
    have nin : ∀ s ∈ names T, a0 ∉ line T s := fun s hs z => ha (line_in h s hs a0 z)
    rw [sumX_cons]
    by_cases c1 : a = a0
    · subst c1
      by_cases c2 : b = a
      · subst c2
        have e0 : D (⟨b, some p, e, d⟩ :: T) b b = 0 := by
          unfold D
          rw [if_pos rfl, if_pos rfl]
        rw [e0, sumX_zero _ fun x _ => by simp [xr], if_neg (by simp [xr])]
        rfl
      · have hb := (List.mem_cons.mp hB).resolve_left c2
        have e0 : D (⟨a, some p, e, d⟩ :: T) a b = D T p b + d := by
          conv => lhs; unfold D
          rw [if_pos rfl, if_neg c2]
        rw [e0, ih p hp b hb]
        have l1 : line (⟨a, some p, e, d⟩ :: T) a = a :: line T p := line_new (r := ⟨a, some p, e, d⟩) rfl
        have l2 : line (⟨a, some p, e, d⟩ :: T) b = line T b := line_old (r := ⟨a, some p, e, d⟩) c2
        have h1 : xr (⟨a, some p, e, d⟩ :: T) a b a = true := by
          unfold xr
          rw [l1, l2]
          simp [nin b hb]
        rw [if_pos h1, sumX_congr T (p := xr (⟨a, some p, e, d⟩ :: T) a b) (q := xr T p b) fun x hx => ?_]
        · exact Int.add_comm _ _
        · have c : x ≠ a := fun z => ha (z ▸ hx)
          unfold xr
          rw [l1, l2]
          simp [c]
    · have ha' := (List.mem_cons.mp hA).resolve_left c1
      have l1 : line (⟨a0, some p, e, d⟩ :: T) a = line T a := line_old (r := ⟨a0, some p, e, d⟩) c1
      by_cases c2 : b = a0
      · subst c2
        have e0 : D (⟨b, some p, e, d⟩ :: T) a b = D T p a + d := by
          conv => lhs; unfold D
          rw [if_neg c1, if_pos rfl]
        have l2 : line (⟨b, some p, e, d⟩ :: T) b = b :: line T p := line_new (r := ⟨b, some p, e, d⟩) rfl
        have h1 : xr (⟨b, some p, e, d⟩ :: T) a b b = true := by
          unfold xr
          rw [l1, l2]
          simp [nin a ha']
        rw [e0, ih p hp a ha', if_pos h1, sumX_congr T (p := xr (⟨b, some p, e, d⟩ :: T) a b) (q := xr T p a) fun x hx => ?_]
        · exact Int.add_comm _ _
        · have c : x ≠ b := fun z => ha (z ▸ hx)
          unfold xr
          rw [l1, l2]
          simp [c]
          cases decide (x ∈ line T a) <;> cases decide (x ∈ line T p) <;> rfl
      · have hb := (List.mem_cons.mp hB).resolve_left c2
        have e0 : D (⟨a0, some p, e, d⟩ :: T) a b = D T a b := by
          conv => lhs; unfold D
          rw [if_neg c1, if_neg c2]
        have l2 : line (⟨a0, some p, e, d⟩ :: T) b = line T b := line_old (r := ⟨a0, some p, e, d⟩) c2
        have h1 : ¬ xr (⟨a0, some p, e, d⟩ :: T) a b a0 = true := by
          unfold xr
          rw [l1, l2]
          simp [nin a ha', nin b hb]
        rw [e0, ih a ha' b hb, if_neg h1, Int.zero_add]
        refine sumX_congr T fun x _ => ?_
        unfold xr
        rw [l1, l2]
theorem D_nn {T : List (Row α)} (W : WF T) {a b : α} (ha : a ∈ names T) (hb : b ∈ names T) : 0 ≤ D T a b := by
  rw [D_sum W a ha b hb]
  exact sumX_nn T fun r hr => (W.de_nn r hr).1
theorem D_comm {T : List (Row α)} (W : WF T) {a b : α} (ha : a ∈ names T) (hb : b ∈ names T) : D T a b = D T b a := by
  rw [D_sum W a ha b hb, D_sum W b hb a ha]
  refine sumX_congr T fun x _ => ?_
  unfold xr
  cases decide (x ∈ line T a) <;> cases decide (x ∈ line T b) <;> rfl
theorem D_tri {T : List (Row α)} (W : WF T) {a b c : α} (ha : a ∈ names T) (hb : b ∈ names T) (hc : c ∈ names T) : D T a c ≤ D T a b + D T b c := by
  rw [D_sum W a ha c hc, D_sum W a ha b hb, D_sum W b hb c hc]
  refine sumX_le T (fun r hr => (W.de_nn r hr).1) fun x => ?_
  unfold xr
  cases decide (x ∈ line T a) <;> cases decide (x ∈ line T b) <;> cases decide (x ∈ line T c) <;> simp
theorem D_up {T : List (Row α)} (W : WF T) {x y j : α} (hx : x ∈ names T) (hj : j ∈ names T) (hy : y ∈ line T j) (hn : y ∉ line T x) : D T x y ≤ D T x j := by
  have hyn := line_in W j hj y hy
  rw [D_sum W x hx y hyn, D_sum W x hx j hj]
  refine sumX_mono T (fun r hr => (W.de_nn r hr).1) fun u => ?_
  unfold xr
  by_cases c1 : u ∈ line T x
  · by_cases c2 : u ∈ line T y
    · simp [c1, c2]
    · have c3 : u ∉ line T j := fun z => hn (line_trans W x hx u c1 y (line_total W j hj u z y hy c2))
      simp [c1, c2, c3]
  · by_cases c2 : u ∈ line T y
    · have c3 : u ∈ line T j := line_trans W j hj y hy u c2
      simp [c1, c2, c3]
    · simp [c1, c2]
theorem D_self {T : List (Row α)} (W : WF T) {a : α} (ha : a ∈ names T) : D T a a = 0 := by
  rw [D_sum W a ha a ha]
  exact sumX_zero T fun x _ => by simp [xr]

/-! ### the law's own distance -/
theorem far_eq {T : List (Row α)} (W : WF T) : ∀ a ∈ names T, ∀ b ∈ names T, far T a b = D T a b := by
  induction W with
  | base a0 e he =>
    intro a ha b hb
    have e1 : a = a0 := List.mem_singleton.mp ha
    have e2 : b = a0 := List.mem_singleton.mp hb
    subst e1
    subst e2
    have l : line [(⟨b, none, e, 0⟩ : Row α)] b = [b] := if_pos rfl
    unfold far D
    rw [l, if_pos rfl, if_pos rfl]
    simp
  | step a0 p e d T h hp ha he hd ih =>
    intro a hA b hB
    have nin : ∀ s ∈ names T, a0 ∉ line T s := fun s hs z => ha (line_in h s hs a0 z)
    have dold : ∀ x ∈ names T, deOf (⟨a0, some p, e, d⟩ :: T) x = deOf T x := fun x hx => if_neg (show ¬ x = a0 from fun z => ha (by rw [← z]; exact hx))
    have dnew : deOf (⟨a0, some p, e, d⟩ :: T) a0 = d := if_pos rfl
    have key : ∀ b ∈ names T, (((a0 :: line T p).filter fun x => !decide (x ∈ line T b)) = a0 :: (line T p).filter fun x => !decide (x ∈ line T b)) ∧ (((line T b).filter fun x => !decide (x ∈ a0 :: line T p)) = (line T b).filter fun x => !decide (x ∈ line T p)) := fun b hb => by
      refine ⟨?_, ?_⟩
      · rw [List.filter_cons, if_pos (by simp [nin b hb])]
      · refine List.filter_congr fun x hx => ?_
        have c : x ≠ a0 := fun z => nin b hb (z ▸ hx)
        simp [c]
    have msum : ∀ l : List α, (∀ x ∈ l, x ∈ names T) → l.map (deOf (⟨a0, some p, e, d⟩ :: T)) = l.map (deOf T) := fun l hl => List.map_congr_left fun x hx => dold x (hl x hx)
    by_cases c1 : a = a0
    · subst c1
      by_cases c2 : b = a
      · subst c2
        have e0 : D (⟨b, some p, e, d⟩ :: T) b b = 0 := by
          unfold D
          rw [if_pos rfl, if_pos rfl]
        have nf : ∀ l : List α, (l.filter fun x => !decide (x ∈ l)) = [] := fun l => List.filter_eq_nil_iff.mpr fun x hx => by simp [hx]
        rw [e0]
        unfold far
        rw [nf]
        rfl
      · have hb := (List.mem_cons.mp hB).resolve_left c2
        have e0 : D (⟨a, some p, e, d⟩ :: T) a b = D T p b + d := by
          conv => lhs; unfold D
          rw [if_pos rfl, if_neg c2]
        have l1 : line (⟨a, some p, e, d⟩ :: T) a = a :: line T p := line_new (r := ⟨a, some p, e, d⟩) rfl
        have l2 : line (⟨a, some p, e, d⟩ :: T) b = line T b := line_old (r := ⟨a, some p, e, d⟩) c2
        rw [e0, ← ih p hp b hb]
        unfold far
        rw [l1, l2, (key b hb).1, (key b hb).2, List.cons_append, List.map_cons, List.sum_cons, dnew, msum]
        · omega
        · intro x hx
          rcases List.mem_append.mp hx with z | z
          · exact line_in h p hp x (List.mem_filter.mp z).1
          · exact line_in h b hb x (List.mem_filter.mp z).1
    · have ha' := (List.mem_cons.mp hA).resolve_left c1
      have l1 : line (⟨a0, some p, e, d⟩ :: T) a = line T a := line_old (r := ⟨a0, some p, e, d⟩) c1
      by_cases c2 : b = a0
      · subst c2
        have e0 : D (⟨b, some p, e, d⟩ :: T) a b = D T p a + d := by
          conv => lhs; unfold D
          rw [if_neg c1, if_pos rfl]
        have l2 : line (⟨b, some p, e, d⟩ :: T) b = b :: line T p := line_new (r := ⟨b, some p, e, d⟩) rfl
        rw [e0, D_comm h hp ha', ← ih a ha' p hp]
        unfold far
        rw [l1, l2, (key a ha').1, (key a ha').2, List.map_append, List.sum_append, List.map_cons, List.sum_cons, dnew, msum, msum, List.map_append, List.sum_append]
        · omega
        · intro x hx
          exact line_in h p hp x (List.mem_filter.mp hx).1
        · intro x hx
          exact line_in h a ha' x (List.mem_filter.mp hx).1
      · have hb := (List.mem_cons.mp hB).resolve_left c2
        have e0 : D (⟨a0, some p, e, d⟩ :: T) a b = D T a b := by
          conv => lhs; unfold D
          rw [if_neg c1, if_neg c2]
        have l2 : line (⟨a0, some p, e, d⟩ :: T) b = line T b := line_old (r := ⟨a0, some p, e, d⟩) c2
        rw [e0, ← ih a ha' b hb]
        unfold far
        rw [l1, l2, msum]
        intro x hx
        rcases List.mem_append.mp hx with z | z
        · exact line_in h a ha' x (List.mem_filter.mp z).1
        · exact line_in h b hb x (List.mem_filter.mp z).1

/-! ### kappa -/
def own (T : List (Row α)) (b x : α) : Int := if x = b then -1 else 2 * erOf T x + D T x b
structure IsMin (f : α → Int) (l : List α) (m : Int) : Prop where
  has : ∃ x ∈ l, f x = m
  le : ∀ x ∈ l, m ≤ f x
theorem IsMin.eq {f : α → Int} {l : List α} {m k : Int} (a : IsMin f l m) (b : IsMin f l k) : m = k := by
  obtain ⟨x, hx, e⟩ := a.has
  obtain ⟨y, hy, e2⟩ := b.has
  have := a.le y hy
  have := b.le x hx
  omega
theorem IsMin.one {f : α → Int} {x : α} : IsMin f [x] (f x) := ⟨⟨x, List.mem_singleton.mpr rfl, rfl⟩, fun y hy => by rw [List.mem_singleton.mp hy]; exact Int.le_refl _⟩
theorem IsMin.cons {f : α → Int} {x : α} {l : List α} {m : Int} (h : IsMin f l m) : IsMin f (x :: l) (if m < f x then m else f x) := by
  obtain ⟨y, hy, e⟩ := h.has
  by_cases c : m < f x
  · rw [if_pos c]
    refine ⟨⟨y, List.mem_cons_of_mem _ hy, e⟩, fun z hz => ?_⟩
    rcases List.mem_cons.mp hz with w | w
    · rw [w]
      omega
    · exact h.le z w
  · rw [if_neg c]
    refine ⟨⟨x, List.mem_cons_self, rfl⟩, fun z hz => ?_⟩
    rcases List.mem_cons.mp hz with w | w
    · rw [w]
      exact Int.le_refl _
    · have := h.le z w
      omega
theorem IsMin.snoc {f : α → Int} {x : α} {l : List α} {m : Int} (h : IsMin f l m) : IsMin f (l ++ [x]) (if f x < m then f x else m) := by
  obtain ⟨y, hy, e⟩ := h.has
  by_cases c : f x < m
  · rw [if_pos c]
    refine ⟨⟨x, by simp, rfl⟩, fun z hz => ?_⟩
    rcases List.mem_append.mp hz with w | w
    · have := h.le z w
      omega
    · rw [List.mem_singleton.mp w]
      exact Int.le_refl _
  · rw [if_neg c]
    refine ⟨⟨y, List.mem_append_left _ hy, e⟩, fun z hz => ?_⟩
    rcases List.mem_append.mp hz with w | w
    · exact h.le z w
    · rw [List.mem_singleton.mp w]
      omega
def minL (f : α → Int) : List α → Int
  | [] => 0
  | [x] => f x
  | x :: y :: l => if minL f (y :: l) < f x then minL f (y :: l) else f x
theorem minL_is {f : α → Int} : ∀ {l : List α}, l ≠ [] → IsMin f l (minL f l)
  | [], h => absurd rfl h
  | [x], _ => IsMin.one
  | x :: y :: l, _ => IsMin.cons (minL_is (l := y :: l) (by simp))
def K (T : List (Row α)) (a b : α) : Int := minL (own T b) (line T a)
theorem K_is (T : List (Row α)) (a b : α) : IsMin (own T b) (line T a) (K T a b) := minL_is fun z => by
  have := line_self T a
  rw [z] at this
  cases this
theorem er_nn {T : List (Row α)} (W : WF T) (x : α) : 0 ≤ erOf T x := by
  have h : ∀ r ∈ T, 0 ≤ r.er := fun r hr => (W.de_nn r hr).2
  clear W
  induction T with
  | nil => exact Int.le_refl _
  | cons r T ih =>
    unfold erOf
    split
    · exact h r List.mem_cons_self
    · exact ih fun r hr => h r (List.mem_cons_of_mem _ hr)
theorem own_ge {T : List (Row α)} (W : WF T) {x b : α} (hx : x ∈ names T) (hb : b ∈ names T) : -1 ≤ own T b x := by
  unfold own
  have := er_nn W x
  have := D_nn W hx hb
  split <;> omega
theorem K_ge {T : List (Row α)} (W : WF T) {a b : α} (ha : a ∈ names T) (hb : b ∈ names T) : -1 ≤ K T a b := by
  obtain ⟨x, hx, e⟩ := (K_is T a b).has
  rw [← e]
  exact own_ge W (line_in W a ha x hx) hb
theorem K_tri {T : List (Row α)} (W : WF T) {i j k : α} (hi : i ∈ names T) (hj : j ∈ names T) (hk : k ∈ names T) : K T i k ≤ K T i j + K T j k + 2 * erOf T j + 2 := by
  obtain ⟨x, hx, ex⟩ := (K_is T i j).has
  obtain ⟨y, hy, ey⟩ := (K_is T j k).has
  have hxn := line_in W i hi x hx
  have hyn := line_in W j hj y hy
  have ej := er_nn W j
  rw [← ex, ← ey]
  by_cases c : y ∈ line T x
  · -- y stands above x, so above i
    have h1 := (K_is T i k).le y (line_trans W i hi x hx y c)
    have h2 := own_ge W hxn hj
    omega
  · by_cases c2 : x = j
    · subst c2
      exact absurd hy c
    · have h1 := (K_is T i k).le x hx
      have h2 := D_up W hxn hj hy c
      have e1 : own T j x = 2 * erOf T x + D T x j := if_neg c2
      have h3 : own T k x ≤ 2 * erOf T x + D T x k := by
        unfold own
        have := er_nn W x
        have := D_nn W hxn hk
        split <;> omega
      have h4 := D_tri W hxn hyn hk
      have h5 : D T y k ≤ own T k y + 1 := by
        unfold own
        have := er_nn W y
        split
        · rename_i z
          rw [z, D_self W hk]
          omega
        · omega
      omega
/-! ### leads -/
/-- of two demands (place, reading) -/
def Lead (T : List (Row α)) (F : Int → Int) (p q : α × Int) : Prop := F (p.2 + erOf T p.1) + K T p.1 q.1 < q.2 - erOf T q.1
theorem lead_rank {T : List (Row α)} (W : WF T) {F : Int → Int} (hF : ∀ t, t < F t) {p q : α × Int} (hp : p.1 ∈ names T) (hq : q.1 ∈ names T) (h : Lead T F p q) : p.2 < q.2 := by
  unfold Lead at h
  have := hF (p.2 + erOf T p.1)
  have := K_ge W hp hq
  have := er_nn W p.1
  have := er_nn W q.1
  omega
theorem lead_trans {T : List (Row α)} (W : WF T) {F : Int → Int} (hF : ∀ t, t < F t) {p q r : α × Int} (hp : p.1 ∈ names T) (hq : q.1 ∈ names T) (hr : r.1 ∈ names T) (h1 : Lead T F p q) (h2 : Lead T F q r) : Lead T F p r := by
  unfold Lead at h1 h2 ⊢
  have := hF (q.2 + erOf T q.1)
  have := K_tri W hp hq hr
  omega
end
end Nt

set_option Elab.async false
set_option linter.all false
/-! Rests of one or two plain forms. Plain Lean. -/
namespace Nt
inductive Fm where
  | win (w : Int)
  | days (bs : List Int) (p : Int)
inductive Rs where
  | pl (f : Fm)
  | lat (f g : Fm)
  | soo (f g : Fm)
  | nxt (f g : Fm)
def lastB (bs : List Int) : Int := bs.getLastD 0
def fmAft : Fm → Int → Int
  | .win w, t => t + w
  | .days bs p, t => match bs.find? fun b => decide (t < b) with
    | some b => b
    | none => lastB bs + ((t - lastB bs) / p + 1) * p
def rsAft : Rs → Int → Int
  | .pl f, t => fmAft f t
  | .lat f g, t => if fmAft g t > fmAft f t then fmAft g t else fmAft f t
  | .soo f g, t => if fmAft g t < fmAft f t then fmAft g t else fmAft f t
  | .nxt f g, t => fmAft g (fmAft f t)
/-- borders: each above the one ahead, the first above l; at most 100 -/
def Asc : Int → List Int → Prop
  | _, [] => True
  | l, b :: r => l + 1 ≤ b ∧ b ≤ 100 ∧ Asc b r
def FmOk : Fm → Prop
  | .win w => 1 ≤ w ∧ w ≤ 9
  | .days bs p => Asc 0 bs ∧ bs.length ≤ 2 ∧ 1 ≤ p ∧ p ≤ 9
def RsOk : Rs → Prop
  | .pl f => FmOk f
  | .lat f g => FmOk f ∧ FmOk g
  | .soo f g => FmOk f ∧ FmOk g
  | .nxt f g => FmOk f ∧ FmOk g
theorem Asc.gt : ∀ {l : Int} {bs : List Int}, Asc l bs → ∀ b ∈ bs, l < b
  | _, [], _, b, hb => by cases hb
  | l, c :: r, h, b, hb => by
    obtain ⟨h1, _, h3⟩ := h
    rcases List.mem_cons.mp hb with e | e
    · omega
    · have := Asc.gt h3 b e
      omega
theorem Asc.le_last : ∀ {l : Int} {bs : List Int}, Asc l bs → ∀ b ∈ bs, b ≤ bs.getLastD l
  | _, [], _, b, hb => by cases hb
  | l, [c], h, b, hb => by
    rw [List.mem_singleton.mp hb]
    exact Int.le_refl _
  | l, c :: d :: r, h, b, hb => by
    obtain ⟨h1, _, h3⟩ := h
    have ih := Asc.le_last h3
    have e : (c :: d :: r).getLastD l = (d :: r).getLastD c := by simp [List.getLastD]
    rw [e]
    rcases List.mem_cons.mp hb with z | z
    · have h4 := ih d List.mem_cons_self
      have h5 := Asc.gt h3 d List.mem_cons_self
      omega
    · exact ih b z
theorem lastB_nn {bs : List Int} (h : Asc 0 bs) : 0 ≤ lastB bs := by
  cases bs with
  | nil => exact Int.le_refl _
  | cons c r =>
    have h1 := Asc.gt h c List.mem_cons_self
    have h2 := Asc.le_last h c List.mem_cons_self
    show 0 ≤ (c :: r).getLastD 0
    omega
theorem lastB_le : ∀ {l : Int} {bs : List Int}, l ≤ 100 → Asc l bs → bs.getLastD l ≤ 100
  | l, [], hl, _ => hl
  | l, [c], _, h => h.2.1
  | l, c :: d :: r, _, h => by
    have e : (c :: d :: r).getLastD l = (d :: r).getLastD c := by simp [List.getLastD]
    rw [e]
    exact lastB_le h.2.1 h.2.2
/-- behind the last told border none is above t -/
theorem find_none {bs : List Int} (h : Asc 0 bs) {t : Int} (ht : lastB bs ≤ t) : bs.find? (fun b => decide (t < b)) = none := by
  rw [List.find?_eq_none]
  intro b hb z
  have := Asc.le_last h b hb
  have := of_decide_eq_true z
  unfold lastB at ht
  omega
theorem find_some {bs : List Int} (h : Asc 0 bs) {t : Int} (h0 : 0 ≤ t) (ht : t < lastB bs) : ∃ b, bs.find? (fun b => decide (t < b)) = some b := by
  cases e : bs.find? (fun b => decide (t < b)) with
  | some b => exact ⟨b, rfl⟩
  | none =>
    rw [List.find?_eq_none] at e
    cases bs with
    | nil =>
      have : lastB [] = 0 := rfl
      omega
    | cons c r =>
      have hm : lastB (c :: r) ∈ c :: r := by
        unfold lastB
        rw [List.getLastD_cons]
        cases r with
        | nil => exact List.mem_singleton.mpr rfl
        | cons d r => exact List.mem_cons_of_mem _ (by rw [List.getLastD_cons]; exact (by
            have : ∀ (d : Int) (r : List Int), r.getLastD d ∈ d :: r := fun d r => by
              induction r generalizing d with
              | nil => exact List.mem_singleton.mpr rfl
              | cons a r ih => rw [List.getLastD_cons]; exact List.mem_cons_of_mem _ (ih a)
            exact this d r))
      exact absurd (decide_eq_true ht) (e _ hm)
theorem fm_gt {f : Fm} (h : FmOk f) (t : Int) : t < fmAft f t := by
  cases f with
  | win w =>
    show t < t + w
    have : 1 ≤ w := h.1
    omega
  | days bs p =>
    obtain ⟨h1, _, h3, _⟩ := h
    show t < (match bs.find? fun b => decide (t < b) with | some b => b | none => lastB bs + ((t - lastB bs) / p + 1) * p)
    cases e : bs.find? fun b => decide (t < b) with
    | some b => exact of_decide_eq_true (List.find?_some (p := fun b => decide (t < b)) e)
    | none =>
      show t < lastB bs + ((t - lastB bs) / p + 1) * p
      have h4 := Int.lt_mul_ediv_self_add (x := t - lastB bs) (k := p) (by omega)
      rw [Int.add_mul, Int.one_mul, Int.mul_comm]
      omega
theorem rs_gt {f : Rs} (h : RsOk f) (t : Int) : t < rsAft f t := by
  cases f with
  | pl f => exact fm_gt h t
  | lat f g =>
    have h1 := fm_gt h.1 t
    have h2 := fm_gt h.2 t
    show t < if fmAft g t > fmAft f t then fmAft g t else fmAft f t
    split <;> omega
  | soo f g =>
    have h1 := fm_gt h.1 t
    have h2 := fm_gt h.2 t
    show t < if fmAft g t < fmAft f t then fmAft g t else fmAft f t
    split <;> omega
  | nxt f g =>
    have h1 := fm_gt h.1 t
    have h2 := fm_gt h.2 (fmAft f t)
    show t < fmAft g (fmAft f t)
    omega
end Nt

set_option Elab.async false
set_option linter.all false
/-! Rows in the order they were written. Plain Lean. -/
namespace Nt
section
variable {α : Type} [DecidableEq α]
theorem WF.suffix : ∀ {A B : List (Row α)}, WF (A ++ B) → B ≠ [] → WF B
  | [], _, h, _ => h
  | [r], B, h, hb => by
    cases h with
    | base a e he => exact absurd rfl hb
    | step a p e d T h hp ha he hd => exact h
  | r :: s :: A, B, h, hb => by
    refine WF.suffix (A := s :: A) ?_ hb
    cases h with
    | step a p e d T h hp ha he hd => exact h
theorem wf_take {rows : List (Row α)} (W : WF rows.reverse) {i : Nat} (hi : i < rows.length) : WF (rows.take (i + 1)).reverse := by
  have e : rows.reverse = (rows.drop (i + 1)).reverse ++ (rows.take (i + 1)).reverse := by
    rw [← List.reverse_append, List.take_append_drop]
  rw [e] at W
  refine W.suffix fun z => ?_
  have := congrArg List.length z
  rw [List.length_reverse, List.length_take, List.length_nil] at this
  omega
theorem take_rev {rows : List (Row α)} {i : Nat} {r : Row α} (h : rows[i]? = some r) : (rows.take (i + 1)).reverse = r :: (rows.take i).reverse := by
  rw [List.take_succ, h]
  simp
/-- what a row is: the first, or one below an earlier one -/
theorem WF.row {r : Row α} {T : List (Row α)} (W : WF (r :: T)) : (T = [] ∧ r.elder = none ∧ r.de = 0 ∧ 0 ≤ r.er) ∨ (WF T ∧ ∃ p, r.elder = some p ∧ p ∈ names T ∧ r.name ∉ names T ∧ 0 ≤ r.er ∧ 0 ≤ r.de) := by
  cases W with
  | base a e he => exact .inl ⟨rfl, rfl, rfl, he⟩
  | step a p e d T h hp ha he hd => exact .inr ⟨h, p, rfl, hp, ha, he, hd⟩
theorem WF.nodup {T : List (Row α)} (W : WF T) : (names T).Nodup := by
  induction W with
  | base a e he => simp [names]
  | step a p e d T h hp ha he hd ih => exact List.nodup_cons.mpr ⟨ha, ih⟩
theorem WF.line_of {T : List (Row α)} (W : WF T) : ∀ r ∈ T, (r.elder = none ∧ line T r.name = [r.name]) ∨ ∃ e, r.elder = some e ∧ e ∈ names T ∧ line T r.name = r.name :: line T e := by
  induction W with
  | base a e he =>
    intro r hr
    obtain rfl := List.mem_singleton.mp hr
    exact .inl ⟨rfl, if_pos rfl⟩
  | step a p e d T h hp ha he hd ih =>
    intro r hr
    rcases List.mem_cons.mp hr with z | z
    · subst z
      refine .inr ⟨p, rfl, List.mem_cons_of_mem _ hp, ?_⟩
      rw [line_new (r := ⟨a, some p, e, d⟩) rfl, line_old (r := ⟨a, some p, e, d⟩) (s := p) (fun z => ha (by have z : p = a := z; rw [← z]; exact hp))]
    · have hn : r.name ∈ names T := List.mem_map.mpr ⟨r, z, rfl⟩
      have ne : r.name ≠ a := fun q => ha (q ▸ hn)
      rcases ih r z with ⟨h1, h2⟩ | ⟨u, h1, h2, h3⟩
      · exact .inl ⟨h1, by rw [line_old (r := ⟨a, some p, e, d⟩) ne]; exact h2⟩
      · refine .inr ⟨u, h1, List.mem_cons_of_mem _ h2, ?_⟩
        rw [line_old (r := ⟨a, some p, e, d⟩) ne, line_old (r := ⟨a, some p, e, d⟩) (s := u) (fun q => ha (by have q : u = a := q; rw [← q]; exact h2))]
        exact h3
theorem WF.er_of {T : List (Row α)} (W : WF T) : ∀ r ∈ T, erOf T r.name = r.er ∧ deOf T r.name = r.de := by
  induction W with
  | base a e he =>
    intro r hr
    obtain rfl := List.mem_singleton.mp hr
    exact ⟨if_pos rfl, if_pos rfl⟩
  | step a p e d T h hp ha he hd ih =>
    intro r hr
    rcases List.mem_cons.mp hr with z | z
    · subst z
      exact ⟨if_pos rfl, if_pos rfl⟩
    · have hn : r.name ∈ names T := List.mem_map.mpr ⟨r, z, rfl⟩
      have ne : r.name ≠ a := fun q => ha (q ▸ hn)
      obtain ⟨h1, h2⟩ := ih r z
      exact ⟨(if_neg ne).trans h1, (if_neg ne).trans h2⟩
/-- the least lateness, by the way up -/
theorem WF.K_of {T : List (Row α)} (W : WF T) {r : Row α} (hr : r ∈ T) (b : α) : (r.elder = none ∧ K T r.name b = own T b r.name) ∨ ∃ e, r.elder = some e ∧ e ∈ names T ∧ K T r.name b = if K T e b < own T b r.name then K T e b else own T b r.name := by
  rcases W.line_of r hr with ⟨h1, h2⟩ | ⟨e, h1, h2, h3⟩
  · refine .inl ⟨h1, ?_⟩
    have := K_is T r.name b
    rw [h2] at this
    exact this.eq IsMin.one
  · refine .inr ⟨e, h1, h2, ?_⟩
    have := K_is T r.name b
    rw [h3] at this
    exact this.eq (IsMin.cons (K_is T e b))
theorem names_rev (rows : List (Row α)) : ∀ x, x ∈ names rows.reverse ↔ x ∈ rows.map (·.name) := fun x => by simp [names]
/-- distances: a new row -/
theorem D_row {r : Row α} {T : List (Row α)} {e : α} (he : r.elder = some e) (hn : r.name ∉ names T) {b : α} (hb : b ∈ names T) : D (r :: T) r.name b = D T e b + r.de ∧ D (r :: T) b r.name = D T e b + r.de := by
  have ne : b ≠ r.name := fun z => hn (z ▸ hb)
  constructor
  · show (if r.name = r.name then (if b = r.name then 0 else match r.elder with | none => 0 | some e => D T e b + r.de) else _) = _
    rw [if_pos rfl, if_neg ne, he]
  · show (if b = r.name then _ else if r.name = r.name then (match r.elder with | none => 0 | some e => D T e b + r.de) else _) = _
    rw [if_neg ne, if_pos rfl, he]
theorem D_new_self {r : Row α} {T : List (Row α)} : D (r :: T) r.name r.name = 0 := by
  show (if r.name = r.name then (if r.name = r.name then 0 else _) else _) = _
  rw [if_pos rfl, if_pos rfl]
theorem D_old {r : Row α} {T : List (Row α)} (hn : r.name ∉ names T) {a b : α} (ha : a ∈ names T) (hb : b ∈ names T) : D (r :: T) a b = D T a b := by
  have na : a ≠ r.name := fun z => hn (z ▸ ha)
  have nb : b ≠ r.name := fun z => hn (z ▸ hb)
  show (if a = r.name then _ else if b = r.name then _ else D T a b) = _
  rw [if_neg na, if_neg nb]
end
end Nt

set_option Elab.async false
set_option linter.all false
set_option maxRecDepth 100000
set_option maxHeartbeats 2000000
/-! super().__init__(..) in an own class's __init__: the body told of the running code. -/
namespace SuX
open PySem PySem.Spec PyProof.Rows L2 NdefX

/-- a block, a statement, where the code that runs is known -/
structure PSsA (X : Cx) (c : Code) (st : List Stmt) (t : TS) : Prop where
  run : ∀ (pins : List (Addr × Obj)) (s : Shared) (σ : L2.St) (H : Hp) (D : Ends), Inv X pins σ H s → t D σ H → PySem.wpAt (model X.prog X.w) X.A c (execs st X.env) (SP X pins D) X.xe s
structure PSA (X : Cx) (c : Code) (st : Stmt) (t : TS) : Prop where
  run : ∀ (pins : List (Addr × Obj)) (s : Shared) (σ : L2.St) (H : Hp) (D : Ends), Inv X pins σ H s → t D σ H → PySem.wpAt (model X.prog X.w) X.A c (exec st X.env) (SP X pins D) X.xe s
section
variable {X : Cx} {c : Code} {st : Stmt} {rest : List Stmt} {t u : TS}
theorem psa_of (h : PS X st t) : PSA X c st t := ⟨fun pins s σ H D I hw => wpAt_of_wpAny (h.run pins s σ H D I hw)⟩
theorem psa_all (h : PSs X rest t) : PSsA X c rest t := ⟨fun pins s σ H D I hw => wpAt_of_wpAny (h.run pins s σ H D I hw)⟩
theorem psa_cons (h1 : PSA X c st t) (h2 : PSsA X c rest u) : PSsA X c (st :: rest) (tSeq t u) := by
  refine ⟨fun pins s σ H D I hw => ks_wpAt_execs_cons (ks_wpAt_mono (h1.run pins s σ H _ I hw) (fun f s' hf => ?_) fun _ _ z => z)⟩
  cases f with
  | next =>
    obtain ⟨σ', H', I', q⟩ := hf
    exact h2.run pins s' σ' H' D I' q
  | brk => exact hf
  | cont => exact hf
  | ret u => exact hf
end

/-- what is known of a def that says super(): where it stands, its class's cell, the next __init__ above -/
structure SupF (K : PySem.W.Frag) (prog : Program) (f : Addr) (fd : FuncData) (F : NF) (D f2 cc : Addr) : Prop where
  cl : F.cl = ([("__class__", cc)] : List (Str × Addr))
  lk : ∃ oc od osl, K.lookup f = some ⟨oc, od, .func fd, osl⟩
  fdE : ∃ kV doc pm an ct, fd = PySem.W.fnX F.name F.qual F.params F.body F.scope F.cl .none kV doc pm an (.ref F.c) ct
  cd : PySem.W.codeIn K (.ref F.c) F.qual = true
  rc : ∃ ccl cdd vs ccs file tf, K.lookup F.c = some ⟨ccl, cdd, .fields vs, ccs⟩ ∧ vs[2]? = some (.str file tf) ∧ ((prog.main.file : Str) == file) = true
  cell : ∃ a b d, K.lookup cc = some ⟨a, b, .cell (some (.ref D)), d⟩
  cls : ∃ cdD, PySem.W.clsIn K D = some cdD
  sub : PySem.W.mroIn K D (.ref D) = some true
  sup : PySem.W.ks_superIn K D D "__init__" = some (some (.ref f2))
  ft : PySem.W.typeIn K (.ref f2) = some (.type "function")
  fi : PySem.W.fnIn K f2 = true
  opq : PySem.W.nsIn K cStatics "thirdparty.any" = some none

/-- super().__init__(e, ..): self stands in slot 0 -/
def tSup (D : Addr) (sp : Sp) (E : XK) (t : TA) : TS := fun De σ H => ∃ x dx fs, σ[0]? = some (some (.ref x)) ∧ H x = some (.ins D dx fs) ∧ t σ H fun vs H1 => sp (.ref x :: vs) H1 (fun _ H2 => De.nx σ H2) E

section
variable {X : Cx} {CX : CXT} {k : Nat} {f f2 D cc : Addr} {fd fd2 : FuncData} {F : NF} {ps2 : List Str} {sp : Sp} {E : XK} {e : Expr} {es : List Expr} {t : TA} {p0 p1 apos pos spos : Pos} {L : Addr} {sf : Str}
theorem psa_super {pl : Sem Bool} (S : SupF X.K X.prog f fd F D f2 cc) (G : FnOk X.prog X.w X.K X.mg X.base CX k f2 fd2 ps2 sp) (hr : Room k X.A) (hb : Binds X.K fd2 ps2 []) (hx : Passes CX X E) (henv : X.env = envF F f L)
    (hm : X.mg "super" = none) (hN : X.N[0]? = some sf) (hsf : (F.params.posonlyargs ++ F.params.args).head?.map (·.arg) = some sf) (hsl : F.scope.names.lookup sf = some .local)
    (hks : F.scope.names.lookup ("super" : Str) = some .globalImplicit) (hkc : F.scope.names.lookup ("__class__" : Str) = some .free) (hkind : F.scope.kind = .function)
    (htop : (X.prog.main.scope.names.lookup ("super" : Str)).isSome = false) (ha : PA X (e :: es) t)
    (hs : swapsWith (.Call (.Attribute (.Call (.Name "super" p0) [] [] p1) "__init__" apos) (e :: es) [] pos) none spos.line X.env = pure false := by rfl)
    (he : starEach (e :: es) X.env = (false, eval e X.env) :: starEach es X.env := by rfl) (hpl : (backTo pos (starEach es X.env)).any (·.1) = false := by rfl)
    (ht : eval (.Call (.Attribute (.Call (.Name "super" p0) [] [] p1) "__init__" apos) (e :: es) [] pos) X.env = (do
      let ov ← attributeBase (.Call (.Name "super" p0) [] [] p1) "__init__" X.env (eval (.Call (.Name "super" p0) [] [] p1) X.env)
      standAt apos.atName
      let (f, first) ← holding [ov] (getMethod ov "__init__" pl)
      callWith pos f first (backTo pos (starEach (e :: es) X.env)) []) := by rfl) :
    PSA X (.func F.body X.env) (.Expr (.Call (.Attribute (.Call (.Name "super" p0) [] [] p1) "__init__" apos) (e :: es) [] pos) spos) (tSup D sp E t) := by
  refine ⟨fun pins s σ H De I hw => ?_⟩
  obtain ⟨x, dx, fs, h0, hxo, hw⟩ := hw
  obtain ⟨oc, od, osl, lk⟩ := S.lk
  obtain ⟨kV, doc, pm, an, ct, fdE⟩ := S.fdE
  obtain ⟨ccl, cdd, vs, ccs, file, tf, rl, rv, rf⟩ := S.rc
  obtain ⟨ca, cb, cdt, cl⟩ := S.cell
  obtain ⟨cdD, hcd⟩ := S.cls
  have KX := I.kIn
  obtain ⟨mb, hmb1, hmb2⟩ := I.mod.blt
  have kd : ∀ x, X.env.kindOf x = F.scope.names.lookup x := fun x => by rw [henv] <;> rfl
  have hk' : X.env.scope.kind = .function := by rw [henv]; exact hkind
  obtain ⟨m, hn, hl⟩ := I.loc
  obtain ⟨mA, O, _, _, _, _⟩ := ins_get I.hok hxo
  obtain ⟨odx, J, _⟩ := O.look
  -- the class's object
  obtain ⟨oD, hD1, hD2⟩ : ∃ oD, s.heap.get? D = some oD ∧ oD.data = .cls cdD := by
    unfold PySem.W.clsIn at hcd
    split at hcd
    · rename_i c d cd' sl ho
      cases hcd
      exact ⟨_, KX _ _ ho, rfl⟩
    · cases hcd
  cases ear : (F.params.posonlyargs ++ F.params.args).head? with
  | none =>
    rw [ear] at hsf
    cases hsf
  | some ar =>
  rw [ear] at hsf
  have hsf : ar.arg = sf := Option.some.inj hsf
  obtain ⟨u, ru, lu⟩ := hl 0 sf (.ref x) hN h0 (.inl (by rw [henv]; exact hsl))
  obtain rfl : u = Value.ref x := ru
  have hv : m ar.arg = some (.ref x) := by
    rcases lu with ⟨_, z⟩ | ⟨z, _⟩
    · rw [hsf]
      exact z
    · rw [kd, hsl] at z
      rcases z with z | z <;> cases z
  refine ks_wpAt_Expr_any ?_ I.quiet hs
  refine ks_wpAt_MethodCall (pl := pl) ?_ ht
  have ef : X.env.func = some f := by rw [henv] <;> rfl
  have ec : X.env.code = .ref F.c := by rw [henv] <;> rfl
  refine ks_wpAt_super_base (body := F.body) (env := X.env) (by rw [kd]; exact hks) (by rw [kd]; exact hkc) (by decide) ef (KX _ _ lk) rfl (by rw [fdE]; exact ear) ec (KX _ _ rl) rfl rv rf htop ?_
  refine PySem.W.ks_loadName_global hk' (by rw [kd]; exact hks) (Calls.loadGlobal_builtin (by rw [I.ok.glob]; exact I.mod.glob.keeps I.bk) hm (by rw [I.ok.blt]; exact hmb1.keeps I.bk) ((hmb2 _ (by decide +kernel)).trans (by first | boot_by_name | rfl | kernel_rfl)) ⟨rfl, ?_⟩)
  refine wpAny_loadName_free hk' (by rw [kd]; exact hkc) (c := cc) (by rw [henv]; show F.cl.lookup _ = _; rw [S.cl]; rfl) ⟨_, KX _ _ cl, rfl⟩ ?_
  refine wpAny_loadName_local hk' (by rw [kd, hsf]; exact hsl) hn hv ?_
  obtain ⟨hh, g, d, tk, os⟩ := s
  refine PySem.ks_wpAny_isType_cls hD1 hD2 ⟨rfl, ?_⟩
  refine PySem.ks_wpAny_call_super hD1 hD2 J.at_ J.cls (fun c z => ?_) (PySem.W.looks_mroIn KX S.sub) (fun h' e1 k1 => ?_)
  · have := J.no
    unfold PySem.W.notCls at this
    rw [z] at this
    exact Bool.noConfusion this
  have I1 : Inv X pins σ H ⟨h', g, d, tk, os⟩ := I.kept (t' := tk) k1
  have KX1 : X.K.In h' := I1.kIn
  obtain ⟨of, hof, hofc⟩ : ∃ of, h'.get? f2 = some of ∧ of.cls = .type "function" := by
    have ht' : (X.K.lookup f2).map (·.cls) = some (.type "function") := S.ft
    cases z : X.K.lookup f2 with
    | none => rw [z] at ht'; cases ht'
    | some of => rw [z] at ht'; exact ⟨of, KX1 _ _ z, Option.some.inj ht'⟩
  have hsup := S.sup
  unfold PySem.W.ks_superIn at hsup
  rw [hcd] at hsup
  obtain ⟨mA1, O1, _, _, _, _⟩ := ins_get I1.hok hxo
  obtain ⟨odx1, J1, _⟩ := O1.look
  refine PySem.ks_wpAny_getMethod_super e1 (PySem.W.looks_opaque KX1 S.opq) (l₀ := cdD.mro) ?_ rfl KX1 hsup hof hofc (PySem.W.ks_ne KX1 J1 hcd) (by decide) ?_
  · exact fun A Q E s k q => wpAny_bind ((PySem.W.looks_clsIn KX1 hcd) A _ E s k (wpAny_pure q))
  -- the bound method stands at q, pinned while the arguments are reckoned
  have kp : ∀ b o, h'.get? b = some o → (h'.push (PySem.W.methodObj (.ref f2) (.ref x))).get? b = some o := fun b o z => Heap.get?_push_of_some _ z
  have I2 : Inv X pins σ H ⟨h'.push (PySem.W.methodObj (.ref f2) (.ref x)), g, d, tk + 1, os⟩ := I1.kept (t' := tk + 1) kp
  have hq : (h'.push (PySem.W.methodObj (.ref f2) (.ref x))).get? h'.objs.size = some (PySem.W.methodObj (.ref f2) (.ref x)) := Heap.get?_push_at rfl rfl
  have hfree : H h'.objs.size = none := I1.hok.fresh (Nat.le_refl _)
  have I3 : Inv X (pins ++ [(h'.objs.size, PySem.W.methodObj (.ref f2) (.ref x))]) σ H ⟨h'.push (PySem.W.methodObj (.ref f2) (.ref x)), g, d, tk + 1, os⟩ := I2.pins_of fun p hp => by
    rcases List.mem_append.mp hp with z | z
    · exact I2.pin p (List.mem_append_right _ z)
    · rw [List.mem_singleton.mp z]
      exact ⟨hq, hfree, Nat.ne_of_gt I1.lt, I1.nofs (Nat.le_refl _), fun v w => by cases w⟩
  refine PySem.W.callWith_of (P := PySem.W.MethP X.K h'.objs.size f2 (.ref x)) (by rw [he]; show ((false || (backTo pos (starEach es X.env)).any (·.1)) || false) = false; rw [hpl]; rfl) (PySem.W.keeps_M S.fi) (by
    have hA := ha.run pos (pins ++ [(h'.objs.size, PySem.W.methodObj (.ref f2) (.ref x))]) ⟨h'.push (PySem.W.methodObj (.ref f2) (.ref x)), g, d, tk + 1, os⟩ σ H _ I3 hw
    rw [he] at hA ⊢
    refine Calls.evalArgs_plain (thn hA fun us s3 ⟨ws, H3, I4, r3, q3⟩ => ?_)
    have hm4 : s3.heap.get? h'.objs.size = some (PySem.W.methodObj (.ref f2) (.ref x)) := (I4.pin (h'.objs.size, PySem.W.methodObj (.ref f2) (.ref x)) (List.mem_append_right _ (List.mem_append_right _ (List.mem_singleton.mpr rfl)))).1
    have I5 : Inv X pins σ H3 s3 := I4.unpinned
    refine ⟨⟨hm4, I5.kIn⟩, ?_⟩
    refine wpAny_call (PySem.W.method_call hm4 ?_)
    have r4 : Vals (V.ref x :: ws) (Value.ref x :: us) := .cons rfl r3
    have hl2 : (Value.ref x :: us).length = ps2.length := by rw [← r4.length]; exact G.len _ _ _ _ q3
    have hb2 : BindsTo s3 fd2 ⟨Value.ref x :: us, []⟩ (ps2.zip (Value.ref x :: us)) := by
      have := hb s3 (Value.ref x :: us) I5.kIn (by rw [List.append_nil]; exact hl2)
      rwa [List.append_nil] at this
    refine codeAny_mono (G.run X.A X.stack s3 H3 ⟨Value.ref x :: us, []⟩ (Value.ref x :: us) (V.ref x :: ws) _ E hr I5.env0 hb2 r4 q3) fun r s' hq' => ?_
    cases r with
    | error e => exact hx pins σ H3 s3 e s' I5 hq'
    | ok fl =>
      cases fl with
      | ret u =>
        obtain ⟨v, H', I6, _, q⟩ := I5.after hq'
        exact ⟨σ, H', I6, q⟩
      | next => exact False.elim hq'
      | brk => exact False.elim hq'
      | cont => exact False.elim hq')
end

/-- a def that says super(), by its body -/
theorem fn_ofS {CX : CXT} {P : Program} {w : World} {K : PySem.W.Frag} {mg : Str → Option Value} {base : Heap} {k : Nat} {f f2 D cc : Addr} {fd : FuncData} {F : NF} {N ps : List Str} {sp : Sp} (S : SupF K P f fd F D f2 cc) (Sc : NScope N ps ["__class__"] F.scope)
    (len : ∀ vs H Q E, sp vs H Q E → vs.length = ps.length)
    (hbody : ∀ (A : Around) (outer : List Env) (s : Shared) (H : Hp) (vs : List V) (Q : VK) (E : XK), Room k (A.deeper (envF F f s.heap.objs.size)) → sp vs H Q E →
      ∃ t, PSsA (ncx CX P w K mg base N F f A outer s H E) (.func F.body (envF F f s.heap.objs.size)) F.body t ∧ t { nx := fun _ H' => Q .non H', rt := Q } (startF N vs [some (.ref D)]) H) :
    FnOk P w K mg base CX (k + 1) f fd ps sp := by
  obtain ⟨oc, od, osl, lk⟩ := S.lk
  obtain ⟨kV, doc, pm, an, ct, fdE⟩ := S.fdE
  subst fdE
  refine ⟨len, fun A outer s H args us vs Q E hr e0 hb r hsp => ?_⟩
  have hl := len _ _ _ _ hsp
  have KX : K.In s.heap := e0.mod.kin.keeps fun b o e => (e0.bs b o e).1
  have KB : K.In base := e0.mod.kin
  have lim : s.heap.NoLimit := e0.mod.nolimit.keeps fun b o e => (e0.bs b o e).1
  refine ks_codeAny_call_defAt (body := F.body) (binds := ps.zip us) hr.depth (KX _ _ lk) rfl lim (PySem.W.codeRec_of KX S.cd) rfl hb Sc.nocell (fun y hy => Sc.par y.1 (List.of_mem_zip hy).1) (fun h₁ hns kp => ?_) Sc.co Sc.gen Sc.kind
  show PySem.wpAt (model P w) (A.deeper (envF F f s.heap.objs.size)) (.func F.body (envF F f s.heap.objs.size)) (execs F.body (envF F f s.heap.objs.size)) _ _ _
  obtain ⟨t, ht, hq⟩ := hbody A outer s H vs Q E (hr.deeper _) hsp
  obtain ⟨ca, cb, cdt, cl⟩ := S.cell
  have C : CellsAt F.cl ["__class__"] [some (V.ref D)] s.heap H := by
    rw [S.cl]
    have one : ∀ {y : Str} {c : Addr}, ([("__class__", cc)] : List (Str × Addr)).lookup y = some c → y = "__class__" ∧ c = cc := fun {y c} z => by
      have hm := PySem.mem_of_lookup z
      have := List.mem_singleton.mp hm
      exact ⟨congrArg Prod.fst this, congrArg Prod.snd this⟩
    refine ⟨rfl, fun y c z => ?_, fun x y c z1 z2 => (one z1).1.trans (one z2).1.symm, fun i y z => ?_⟩
    · rw [(one z).2]
      exact ⟨(e0.bs _ _ (KB _ _ cl)).2, _, _, KX _ _ cl, rfl⟩
    · cases i with
      | zero =>
        have : y = "__class__" := (Option.some.inj z).symm
        subst this
        refine ⟨cc, by rfl, fun v hv => ?_⟩
        have : v = V.ref D := (Option.some.inj (Option.some.inj hv)).symm
        subst this
        exact ⟨Value.ref D, rfl, _, KX _ _ cl, rfl⟩
      | succ i => cases z
  have I : Inv (ncx CX P w K mg base N F f A outer s H E) [] (startF N vs [some (V.ref D)]) H { s with heap := h₁, toks := s.toks + (ps.zip us).length } := inv_startN Sc hr.hd e0 hl r C hns kp
  refine ks_wpAt_mono (ht.run [] _ (startF N vs [some (V.ref D)]) H _ I hq) (fun fl s' hs => ?_) fun e s' hs => hs
  have fin : ∀ {σ' : L2.St} {H' : Hp} {v : V} {u : Value}, Inv (ncx CX P w K mg base N F f A outer s H E) [] σ' H' s' → L2.RelV v u → Q v H' → CE outer P w H s Q u s' :=
    fun {σ' H' v u} J rv q => ⟨v, H', J.os, J.bare, J.base, J.hok, rv, q⟩
  cases fl with
  | ret u =>
    obtain ⟨v, σ', H', J, rv, q⟩ := hs
    exact fin J rv q
  | next =>
    obtain ⟨σ', H', J, q⟩ := hs
    exact fin (v := V.non) (u := Value.none) J rfl q
  | brk =>
    obtain ⟨_, _, _, q⟩ := hs
    exact False.elim q
  | cont =>
    obtain ⟨_, _, _, q⟩ := hs
    exact False.elim q
end SuX

set_option Elab.async false
set_option linter.all false
set_option maxRecDepth 100000
set_option maxHeartbeats 2000000
/-! C(e, .., k = v) of an own class whose __init__ is (self, *rows, rest); math.lcm; walks of a list or a tuple. -/
namespace StK
open PySem PySem.Spec PyProof.Rows L2 StX

/-- a promise by positional arguments and one keyword's value -/
abbrev Sp2 := List V → V → Hp → VK → XK → Prop
def FnKR (P : Program) (w : World) (K : PySem.W.Frag) (mg : Str → Option Value) (base : Heap) (CX : CXT) (k : Nat) (f : Addr) (kw : Str) (sp : Sp2) : Prop :=
  ∀ (A : Around) (outer : List Env) (s : Shared) (H : Hp) (us : List Value) (z : Value) (vs : List V) (y : V) (Q : VK) (E : XK), Room k A → Env0 P w K mg base A outer s H → Vals vs us → RelV y z → sp vs y H Q E →
    codeAny (model P w) A (.call (.ref f) ⟨us, [(kw, z)]⟩) (CR CX outer P w H s Q E) s
section
variable {CX : CXT} {P : Program} {w : World} {K : PySem.W.Frag} {mg : Str → Option Value} {base : Heap} {k : Nat} {f : Addr} {name qual : Str} {params : Arguments} {body : List Stmt} {scope : Scope} {dV kV doc pm cdv ct oc : Value} {an od : Option Addr}
  {osl : Array (Option Value)} {N : List Str} {sp : Sp} {a1 pv kw : Str}
/-- def f(self, *rows, rest): what is left over is a new tuple -/
theorem fn_starK (lk : K.lookup f = some ⟨oc, od, .func (PySem.W.fnOf name qual params body scope dV kV doc pm an cdv ct), osl⟩) (hcd : PySem.W.codeIn K cdv qual = true) (S : FnScope N [a1, kw, pv] scope) (hCX : CXUp CX)
    (hb : ∀ (u : Value) (rest : List Value) (z : Value), bindArgs (PySem.W.fnOf name qual params body scope dV kV doc pm an cdv ct) ⟨u :: rest, [(kw, z)]⟩ = (newTuple rest >>= fun t => pure [(a1, u), (kw, z), (pv, t)]))
    (hbody : ∀ (A : Around) (outer : List Env) (s : Shared) (H : Hp) (vs : List V) (Q : VK) (E : XK), Room k (A.deeper (envOfC qual scope s.heap.objs.size f cdv)) → sp vs H Q E →
      ∃ t, PSs (cxOf CX P w K mg base N qual scope f cdv A outer s H E) body t ∧ t { nx := fun _ H' => Q .non H', rt := Q } (start N vs) H) :
    FnKR P w K mg base CX (k + 1) f kw (fun vs y H Q E => ∃ x rest, vs = x :: rest ∧ rest.length ≤ sizeLine ∧ ∀ p, H p = Option.none → sp [x, y, V.ref p] (upd H p (.tup rest)) Q E) := by
  intro A outer s H us z vs y Q E hr e0 r rz hsp
  obtain ⟨x, rest, ev, hz, hq⟩ := hsp
  subst ev
  cases r with
  | @cons _ u _ u2 r1 r2 =>
  have hn : H s.heap.objs.size = Option.none := e0.hok.fresh (Nat.le_refl _)
  have hl2 : u2.length ≤ sizeLine := by rw [← r2.length]; exact hz
  refine run_bnd lk hcd S hr e0 (G := fun xs H2 => ∃ p, H p = Option.none ∧ xs = [x, y, V.ref p] ∧ H2 = upd H p (.tup rest)) (fun A' Ex Q' h => ?_) fun s2 H2 xs ⟨p, hp, ex, eH⟩ hr' => ?_
  · rw [hb u u2 z]
    refine wpAny_bind (wpAny_newTuple (wpAny_pure ?_) hl2)
    have new : ObjOk P w (upd H s.heap.objs.size (.tup rest)) (s.heap.push ({ cls := .type "tuple", data := .seq u2.toArray } : Obj)) s.heap.objs.size (.tup rest) := ⟨hz, u2, r2, ⟨_, Heap.get?_push_size _ rfl, rfl, _, rfl⟩⟩
    have un := un_laid (fs := frs outer) (s := s) (o := ({ cls := .type "tuple", data := .seq u2.toArray } : Obj)) (u := .tup rest) hn
    exact h _ _ [x, y, V.ref s.heap.objs.size] [u, z, Value.ref s.heap.objs.size] (env0_laid e0 new) un rfl (fun e s' => hCX outer s H _ _ E e s' un (fun b o q => Heap.get?_push_of_some _ q) rfl) (.cons r1 (.cons rz (.cons rfl .nil))) rfl ⟨_, hn, rfl, rfl⟩
  · subst ex eH
    exact hbody A outer s2 _ _ Q E hr' (hq p hp)
end
/-- C(e, .., kw = v): a new instance and its dict, then __init__ -/
def tMakeKR (C : Addr) (sp : Sp2) (E : XK) (t tk : TA) : TE := fun σ H Q => t σ H fun vs H1 => tk σ H1 fun zs H2 => ∃ y, zs = [y] ∧ ∀ x dx, H2 x = none → H2 dx = none → dx ≠ x →
  sp (.ref x :: vs) y (upd (upd H2 dx (.own x)) x (.ins C dx [])) (fun v H3 => v = .non ∧ Q (.ref x) H3) E
section
variable {X : Cx} {CX : CXT} {k : Nat} {f C : Addr} {sp : Sp2} {E : XK} {x kw : Str} {p pos : Pos} {e : Expr} {es : List Expr} {kws : List Keyword} {t tk : TA}
theorem run_makeKR {pins : List (Addr × Obj)} {σ : L2.St} {H : Hp} {s : Shared} {Q : VK} {us : List Value} {z : Value} {vs : List V} {y : V} (M : Mk X.K C f) (F : FnKR X.prog X.w X.K X.mg X.base CX k f kw sp) (hr : Room (k + 1) X.A) (hx : Passes CX X E)
    (I : Inv X pins σ H s) (r : Vals vs us) (rz : RelV y z)
    (h : ∀ x dx, H x = none → H dx = none → dx ≠ x → sp (.ref x :: vs) y (upd (upd H dx (.own x)) x (.ins C dx [])) (fun v H2 => v = .non ∧ Q (.ref x) H2) E) :
    wpAny (model X.prog X.w) X.A (call (.ref C) us [(kw, z)]) (EP X pins σ Q) X.xe s := by
  have hq := h (s.heap.objs.size + 1) s.heap.objs.size (I.hok.fresh (Nat.le_succ _)) (I.hok.fresh (Nat.le_refl _)) (Nat.ne_of_lt (Nat.lt_succ_self _))
  have I2 := Inv.made (C := C) I
  have r1 : Vals (V.ref (s.heap.objs.size + 1) :: vs) (Value.ref (s.heap.objs.size + 1) :: us) := .cons rfl r
  refine wpAny_call (make_map (f := f) I.kIn M.makes M.init (beq_iff_eq.mp M.fn) (codeAny_mono (F _ X.stack _ _ (Value.ref (s.heap.objs.size + 1) :: us) z _ y _ E (hr.make C us [(kw, z)]) (I2.env0.make C us [(kw, z)]) r1 rz hq) fun r s' hq' => ?_))
  cases r with
  | error e => exact hx pins σ _ _ e s' I2 hq'
  | ok fl =>
    cases fl with
    | ret u =>
      obtain ⟨v, H', I3, rv, ev, q3⟩ := I2.after hq'
      subst ev
      exact ⟨rv, ⟨V.ref (s.heap.objs.size + 1), H', I3, rfl, q3⟩⟩
    | next => exact False.elim hq'
    | brk => exact False.elim hq'
    | cont => exact False.elim hq'
theorem pe_makeKR (M : Mk X.K C f) (F : FnKR X.prog X.w X.K X.mg X.base CX k f kw sp) (hr : Room (k + 1) X.A) (hg : Gl X x) (hm : X.mg x = some (.ref C)) (hx : Passes CX X E) (ha : PA X (e :: es) t) (hkw : PK X kws tk)
    (hall : (backToKw pos (keywordEach kws X.env)).all (·.1.isSome) = true := by rfl) (hks : (backToKw pos (keywordEach kws X.env)).filterMap (·.1) = [kw] := by rfl) (hdb : (x == ("__debug__" : Str)) = false := by decide)
    (he : starEach (e :: es) X.env = (false, eval e X.env) :: starEach es X.env := by rfl) (hpl : ((backTo pos (starEach (e :: es) X.env)).any (·.1) || (backToKw pos (keywordEach kws X.env)).any (·.1.isNone)) = false := by rfl) :
    PE X (.Call (.Name x p) (e :: es) kws pos) (tMakeKR C sp E t tk) := by
  refine ⟨fun pins s σ H Q I h => ?_⟩
  refine wpAny_Call_Name_kw (ld_glob I hg hm ?_ hdb)
  refine PySem.W.callWith_KW (h₀ := X.base) I.ok.mod.kin M.kp hall (thn (ha.run pos pins s σ H _ I h) fun us s1 ⟨vs, H1, I1, r, q⟩ => ?_) hpl he
  refine thn (hkw.run pos pins s1 σ H1 _ I1 q) fun ws s2 ⟨zs, H2, I2, rz, y, ez, q2⟩ => ⟨I2.kIn, ?_⟩
  rw [hks]
  subst ez
  obtain ⟨z, e2, rz3⟩ := vals1 rz
  subst e2
  exact run_makeKR M F hr hx I2 r rz3 q2
end

/-! ### lcm -/
def rLcm : List V → Hp → VK → Prop := fun vs H Q => ∃ a b : Int, vs = [.int a, .int b] ∧ a.natAbs < 2 ^ 64 ∧ b.natAbs < 2 ^ 64 ∧ Q (.int ((Nat.lcm a.natAbs b.natAbs : Nat) : Int)) H
theorem cr_lcm {X : Cx} : CallR X (.builtin "math.lcm") rLcm := by
  intro pins s σ H vs us Q I r h
  obtain ⟨a, b, rfl, h1, h2, q⟩ := h
  obtain ⟨t, u, rfl⟩ := Vals.int2 r
  exact PySem.W.mc_lcm h1 h2 fun _ => ⟨.int _, H, I.tok _, ⟨_, rfl⟩, q⟩

/-! ### one of two readings -/
theorem pe_or2 {X : Cx} {e : Expr} {t u : TE} (h : PE X e t) (h' : PE X e u) : PE X e (fun σ H Q => t σ H Q ∨ u σ H Q) :=
  ⟨fun pins s σ H Q I hw => hw.elim (fun z => h.run pins s σ H Q I z) fun z => h'.run pins s σ H Q I z⟩
theorem pi_or2 {X : Cx} {tg it : Expr} {t u : TI} (h : PI X tg it t) (h' : PI X tg it u) : PI X tg it (fun σ H R => t σ H R ∨ u σ H R) :=
  ⟨fun pins s σ H R I hw => hw.elim (fun z => h.run pins s σ H R I z) fun z => h'.run pins s σ H R I z⟩
end StK

set_option Elab.async false
set_option linter.all false
set_option maxRecDepth 100000
set_option maxHeartbeats 2000000
/-! enumerate of a tuple; the forms of loops over enumerate, with what the items are. -/
namespace EnT
open PySem PySem.Spec PyProof.Rows L2
set_option maxHeartbeats 4000000 in
theorem meets_enum1 {v : Value} {o : Obj} {H : Heap → Prop} (B : Begins v o H) :
    Meets (Builtin.«enumerate.__new__» ⟨[.type "enumerate", v], []⟩) (fun _ R s => H s.heap ∧
      R (.ok (.ret (.ref (s.heap.push o).objs.size))) { s with heap := (s.heap.push o).push { cls := .type "enumerate", data := .fields #[.none, .bool false, .ref s.heap.objs.size, rawInt 0, .none, .none] } }) :=
  .of_wp fun prog w A R s h => by
    obtain ⟨hp, g, d, tk, os⟩ := s; obtain ⟨h1, h⟩ := h
    have hsub := sub_enumerate
    have q1 : ∀ {A' : Around} {E : Value → Shared → Prop} {Q : Value → Shared → Prop}, Q (.ref hp.objs.size) ⟨hp.push o, g, d, tk, os⟩ → wpAny (model prog w) A' (pyIter v) Q E ⟨hp, g, d, tk, os⟩ :=
      fun q => B.iter prog w _ _ ⟨hp, g, d, tk, os⟩ _ h1 q
    wp_walk using q1
    refine wpAny_stack_any fun st => wpAny_pure ?_
    split
    · rename_i c _ _ _ _ _
      cases (c == Value.type "enumerate")
      · wp_walk using q1
        exact ⟨_, rfl, h⟩
      · wp_walk using q1
        exact ⟨_, rfl, h⟩
    · wp_walk using q1
      exact ⟨_, rfl, h⟩
section
variable {prog : Program} {w : World} {A : Around} {E : Value → Shared → Prop} {s : Shared}
theorem call_enum1 {v : Value} {o : Obj} {H : Heap → Prop} {Q : Value → Shared → Prop} (B : Begins v o H) (h1 : H s.heap)
    (h : ∀ h', IsEnum h' (s.heap.objs.size + 1) s.heap.objs.size 0 .none → h'.get? s.heap.objs.size = some o → h'.objs.size = s.heap.objs.size + 2 →
      (∀ b o, s.heap.get? b = some o → h'.get? b = some o) → Q (.ref (s.heap.objs.size + 1)) { s with heap := h' }) :
    wpAny (model prog w) A (call (.type "enumerate") [v]) Q E s := by
  refine callType_new F.called_enumerate (by decide) (F.typeCall_enumerate_1 _) (F.newCall_enumerate_1 _) (fun obj => F.args_object_init_2 obj _) F.entry_enumerate_new
    (meets_enum1 B) ⟨h1, ?_⟩
  have hz : (s.heap.push o).objs.size = s.heap.objs.size + 1 := Heap.size_push ..
  show _ ∧ _
  rw [hz]
  have he : IsEnum ((s.heap.push o).push { cls := .type "enumerate", data := .fields #[.none, .bool false, .ref s.heap.objs.size, rawInt 0, .none, .none] }) (s.heap.objs.size + 1) s.heap.objs.size 0 .none := by
    have := Heap.get?_push_size (s.heap.push o) (o := { cls := .type "enumerate", data := .fields #[.none, .bool false, .ref s.heap.objs.size, rawInt 0, .none, .none] }) rfl
    rw [hz] at this; exact this
  refine ⟨⟨_, he, rfl⟩, h _ he (Heap.get?_push_of_some _ (Heap.get?_push_size _ B.free)) (by rw [Heap.size_push, hz]) fun b o x => Heap.get?_push_of_some _ (Heap.get?_push_of_some _ x)⟩
end

/-- the tuple at a, each item in a new pair -/
def Itet (K : PySem.W.Frag) (a : Addr) : It :=
  ⟨fun i H => ∃ (xs : List V) (x : V), SqT K H a xs ∧ xs[i]? = some x, fun i H v H' => ∃ T x, v = .ref T ∧ H T = none ∧ H' = upd H T (.tup [.int (i : Nat), x]) ∧ ∀ xs, SqT K H a xs → xs[i]? = some x, fun i H => ∃ xs : List V, SqT K H a xs ∧ xs.length ≤ i⟩
theorem turn_enumT {P : Program} {w : World} {K : PySem.W.Frag} {elts : List Expr} {kk : Nat} {tpos : Pos} (a e it : Addr) (items : Array Value) :
    Turn P w K (.Tuple elts kk tpos) (Itet K a) [e, it] e (fun i h => (∃ old, IsEnum h e it ((i : Nat) : Int) old) ∧ h.IsTupleIter it a i ∧ e ≠ it) where
  mem := by simp
  obj := fun i h st b hb => by
    obtain ⟨⟨old, he⟩, ⟨o, ho, hc, hd⟩, _⟩ := st
    have e' : b = e ∨ b = it := by simpa using hb
    rcases e' with z | z
    · rw [z]; exact ⟨_, he, fun v q => nomatch q⟩
    · rw [z]; exact ⟨o, ho, fun v q => by rw [hd] at q; cases q⟩
  keep := fun i h h' st k => let ⟨⟨old, he⟩, hi, hne⟩ := st; ⟨⟨old, k e (by simp) _ he⟩, hi.at fun o q => k it (by simp) o q, hne⟩
  item := by
    intro X hP hw hK hc i pins s σ H E I hf st hg
    subst hP hw hK
    obtain ⟨⟨old, he⟩, hit, hne⟩ := st
    obtain ⟨xs, x, hq, hx⟩ := hg
    obtain ⟨its, rv, p, hz⟩ := I.tuple hq
    obtain ⟨u, hu, ru⟩ := rv.get hx
    have hel : e < s.heap.objs.size := Heap.lt_size he
    have hil : it < s.heap.objs.size := by obtain ⟨_, q, _⟩ := hit; exact Heap.lt_size q
    have pt : s.heap.IsTuple a its.toArray := p
    have nai : a ≠ it := fun z => by
      obtain ⟨o1, e1, c1, _⟩ := id hit
      obtain ⟨o2, e2, c2, _⟩ := id p
      rw [z, e1] at e2
      cases e2
      rw [c1] at c2
      exact absurd c2 (by decide)
    have nae : a ≠ e := fun z => by
      obtain ⟨o2, e2, c2, _⟩ := id p
      have he' : s.heap.get? e = some _ := he
      rw [z, he'] at e2
      cases e2
      exact absurd (show Value.type "enumerate" = Value.type "tuple" from c2) (by decide)
    have D := Draws.tuple (prog := X.prog) (w := X.w) (A := X.A.in1) (I.ok.hd hc) it a nai its.toArray
    have hlt : i < its.toArray.size := by
      rw [List.size_toArray]
      exact (List.getElem?_eq_some_iff.mp hu).1
    refine wpAny_pyNext_enum_itemD D he ⟨hit, pt⟩ hlt hne (by simp [hne, Ne.symm nae]) fun x2 h' tk hx2 ho st' hT hsz hk => ?_
    have ex2 : x2 = u := by
      have : its.toArray[i]? = some u := by simpa using hu
      rw [this] at hx2
      exact (Option.some.inj hx2).symm
    subst ex2
    obtain ⟨hit', _⟩ := st'
    refine ⟨_, rfl, wpAny_letOwnedTupleGo_enum (s := { s with heap := h', toks := tk + 1 }) ho fun h'' he' sb => ?_⟩
    have hT2 : h''.get? s.heap.objs.size = some { cls := .type "tuple", data := .seq #[.int i tk, x2] } := (sb.2 _ (Nat.ne_of_gt hel)).trans hT
    have new : ObjOk X.prog X.w (upd H s.heap.objs.size (.tup [.int (i : Nat), x])) h'' s.heap.objs.size (.tup [.int (i : Nat), x]) :=
      ⟨by show 2 ≤ sizeLine; decide, [.int i tk, x2], .cons ⟨_, rfl⟩ (.cons ru .nil), ⟨_, hT2, rfl, _, rfl⟩⟩
    have I1 : Inv X pins σ (upd H s.heap.objs.size (.tup [.int (i : Nat), x])) { s with heap := h'', toks := tk + 1 } :=
      I.turnedNew (ch := [e, it]) (fun b ob hb q => (sb.2 b (fun z => hb (by simp [z]))).trans (hk b ob (fun z => hb (by simp [z])) (fun z => hb (by simp [z])) q)) hf (Nat.le_refl _) new
    refine ⟨.ref s.heap.objs.size, _, I1, rfl, ⟨_, x, rfl, I.hok.fresh (Nat.le_refl _), rfl, fun ys hy => by rw [I.tuple_inj hy hq]; exact hx⟩, ⟨⟨x2, ?_⟩, hit'.at fun o q => (sb.2 it (Ne.symm hne)).trans q, hne⟩, fun b hb => ?_⟩
    · have e1 : ((i + 1 : Nat) : Int) = (i : Int) + 1 := by omega
      rw [e1]; exact he'
    · have hb' : b < s.heap.objs.size := by
        have e' : b = e ∨ b = it := by simpa using hb
        rcases e' with z | z
        · rw [z]; exact hel
        · rw [z]; exact hil
      rw [upd_ne (Nat.ne_of_lt hb')]
      exact (hf b hb).1
  done := by
    intro X hP hw hK hc i pins s σ H E I hf st hg
    subst hP hw hK
    obtain ⟨⟨old, he⟩, hit, hne⟩ := st
    obtain ⟨xs, hq, hx⟩ := hg
    obtain ⟨its, rv, p, hz⟩ := I.tuple hq
    obtain ⟨f0, f1, f2, f3, f4, f5⟩ := hf it (by simp)
    have hl := rv.length
    have pt : s.heap.IsTuple a its.toArray := p
    have hT : s.TypeIs (.ref e) "enumerate" := ⟨_, he, rfl⟩
    have hn : its.toArray[i]? = none := by simp; omega
    have hh := I.ok.hd hc
    unfold pyNext
    refine wpAny_bind (wpAny_attempt (wpAny_callSpecial?_slot (name := Str.ofString "__next__") hT F.slot_enumerate_next
      (wpAny_call_entry F.slot_enumerate_next hT F.entry_enumerate_next ?_ (F.args_enumerate_next_1 _))))
    show wpAny _ _ (field (.ref e) 2 >>= _) _ _ _
    refine wpAny_bind (wpAny_field he rfl (x := .ref it) rfl ?_)
    refine wpAny_bind (wpAny_nextOf_tuple_end hh hit pt hn fun h' x he' hx' => ?_)
    obtain ⟨o, ho, hc⟩ := hx'
    refine wpAny_bind (wpAny_isInstance (T := "StopIteration") (b := true) ⟨o, ho, hc⟩ isSubtype_stop ?_)
    exact wpAny_pure ⟨rfl, I.turned (t' := s.toks) (fun b o hb q => he' b o hb q) f0 f1 f3 f4 f5⟩
  self := fun A i s Q E st h => let ⟨⟨_, he⟩, _⟩ := st; wpAny_pyIter_enum he h
def iEnumT (K : PySem.W.Frag) (ta : TA) : TI := fun σ H R => ta σ H fun vs H1 => ∃ a xs, vs = [.ref a] ∧ SqT K H1 a xs ∧ R (Itet K a) H1
theorem pi_enumT {X : Cx} {e : Expr} {ta : TA} {p pos tpos : Pos} {elts : List Expr} {kk : Nat} (hg : Gl X "enumerate") (hm : X.mg "enumerate" = none) (ha : PA X [e] ta) (hs : starEach [e] X.env = [(false, eval e X.env)] := by rfl) :
    PI X (.Tuple elts kk tpos) (.Call (.Name "enumerate" p) [e] [] pos) (iEnumT X.K ta) := by
  refine ⟨fun pins s σ H R I h => ?_⟩
  refine Call_ (ld_blt I hg hm boot_enumerate (PyProof.Rows.callWith_type1 (thn (ha.run pos pins s σ H _ I h) fun us s1 ⟨vs, H1, I1, r1, q1⟩ => ?_) hs rfl))
  obtain ⟨a, xs, ex, hq, q⟩ := q1
  subst ex
  cases r1 with
  | cons r rr =>
    cases rr
    cases r
    obtain ⟨its, rv, p', hz⟩ := I1.tuple hq
    have pt : s1.heap.IsTuple a its.toArray := p'
    refine call_enum1 (begins_tuple a its.toArray) pt fun h' he hit hsz hk => wpAny_pyIter_enum he ?_
    have I2 : Inv X pins σ H1 { s1 with heap := h' } := I1.kept (t' := s1.toks) hk
    refine ⟨s1.heap.objs.size + 1, [s1.heap.objs.size + 1, s1.heap.objs.size], _, _, H1, rfl, I2, turn_enumT a (s1.heap.objs.size + 1) s1.heap.objs.size its.toArray, ⟨⟨.none, he⟩, ⟨_, hit, rfl, rfl⟩, Nat.succ_ne_self _⟩, fun b hb => ?_, q⟩
    have e' : b = s1.heap.objs.size + 1 ∨ b = s1.heap.objs.size := by simpa using hb
    have hle : s1.heap.objs.size ≤ b := by
      rcases e' with z | z
      · rw [z]; exact Nat.le_add_right _ _
      · rw [z]; exact Nat.le_refl _
    exact I1.fpOk hle (I1.hok.fresh hle)
/-! ### the forms one uses -/
/-- a list or a tuple, read -/
def SqA (K : PySem.W.Frag) (tp : Bool) (H : Hp) (a : Addr) (xs : List V) : Prop := if tp = true then SqT K H a xs else SqL K H a xs
theorem for_enumL {K : PySem.W.Frag} {a : Addr} {xs : List V} {g : TG} {tb : TS} {D : Ends} {σ : L2.St} {H : Hp} (Pv : Nat → L2.St → Hp → Prop) (h0 : Pv 0 σ H) (hl : ∀ i σ H, i ≤ xs.length → Pv i σ H → SqL K H a xs)
    (hs : ∀ i x σ H T, xs[i]? = some x → Pv i σ H → H T = none → g (.ref T) σ (upd H T (.tup [.int (i : Nat), x])) fun σ2 H2 => tb { D with nx := Pv (i + 1), ct := Pv (i + 1), bk := D.nx } σ2 H2) (hd : ∀ σ H, Pv xs.length σ H → D.nx σ H) :
    ∃ W : Nat → Nat → L2.St → Hp → Prop, (∃ m, W 0 m σ H) ∧ ∀ i m σ H, W i m σ H →
      ((Ite K a).stop i H ∧ D.nx σ H) ∨ ((Ite K a).go i H ∧ ∃ N : L2.St → Hp → Prop, (∀ σ' H', N σ' H' → ∃ m', m' < m ∧ W (i + 1) m' σ' H') ∧ ∀ x H', (Ite K a).yld i H x H' → g x σ H' fun σ2 H2 => tb { D with nx := N, ct := N, bk := D.nx } σ2 H2) := by
  refine ⟨fun i m σ H => m = xs.length - i ∧ i ≤ xs.length ∧ Pv i σ H, ⟨xs.length, by simp, Nat.zero_le _, h0⟩, ?_⟩
  rintro i m σ H ⟨rfl, hi, p⟩
  have q := hl i σ H hi p
  by_cases hlt : i < xs.length
  · refine .inr ⟨⟨xs, xs[i], q, by simp [hlt]⟩, Pv (i + 1), fun σ' H' p' => ⟨xs.length - (i + 1), by omega, rfl, hlt, p'⟩, fun x H' y => ?_⟩
    obtain ⟨T, x0, e1, e2, e3, y⟩ := y
    subst e1 e3
    exact hs i x0 σ H T (y xs q) p e2
  · have e : i = xs.length := by omega
    subst e
    exact .inl ⟨⟨xs, q, Nat.le_refl _⟩, hd σ H p⟩
theorem for_enumT {K : PySem.W.Frag} {a : Addr} {xs : List V} {g : TG} {tb : TS} {D : Ends} {σ : L2.St} {H : Hp} (Pv : Nat → L2.St → Hp → Prop) (h0 : Pv 0 σ H) (hl : ∀ i σ H, i ≤ xs.length → Pv i σ H → SqT K H a xs)
    (hs : ∀ i x σ H T, xs[i]? = some x → Pv i σ H → H T = none → g (.ref T) σ (upd H T (.tup [.int (i : Nat), x])) fun σ2 H2 => tb { D with nx := Pv (i + 1), ct := Pv (i + 1), bk := D.nx } σ2 H2) (hd : ∀ σ H, Pv xs.length σ H → D.nx σ H) :
    ∃ W : Nat → Nat → L2.St → Hp → Prop, (∃ m, W 0 m σ H) ∧ ∀ i m σ H, W i m σ H →
      ((Itet K a).stop i H ∧ D.nx σ H) ∨ ((Itet K a).go i H ∧ ∃ N : L2.St → Hp → Prop, (∀ σ' H', N σ' H' → ∃ m', m' < m ∧ W (i + 1) m' σ' H') ∧ ∀ x H', (Itet K a).yld i H x H' → g x σ H' fun σ2 H2 => tb { D with nx := N, ct := N, bk := D.nx } σ2 H2) := by
  refine ⟨fun i m σ H => m = xs.length - i ∧ i ≤ xs.length ∧ Pv i σ H, ⟨xs.length, by simp, Nat.zero_le _, h0⟩, ?_⟩
  rintro i m σ H ⟨rfl, hi, p⟩
  have q := hl i σ H hi p
  by_cases hlt : i < xs.length
  · refine .inr ⟨⟨xs, xs[i], q, by simp [hlt]⟩, Pv (i + 1), fun σ' H' p' => ⟨xs.length - (i + 1), by omega, rfl, hlt, p'⟩, fun x H' y => ?_⟩
    obtain ⟨T, x0, e1, e2, e3, y⟩ := y
    subst e1 e3
    exact hs i x0 σ H T (y xs q) p e2
  · have e : i = xs.length := by omega
    subst e
    exact .inl ⟨⟨xs, q, Nat.le_refl _⟩, hd σ H p⟩
end EnT

set_option Elab.async false
set_option linter.all false
set_option maxRecDepth 100000
set_option maxHeartbeats 2000000
/-! Sets of texts made by a comprehension, and their sorted list. -/
namespace SetX
open PySem PySem.Spec PyProof.Rows L2
/-- an entry's text -/
def keyT (e : Int × Value) : Str := match e.2 with | .str x _ => x | _ => ⟨#[]⟩
def GoodT (w : World) (e : Int × Value) : Prop := ∃ x t, e.2 = Value.str x t ∧ e.1 = hashStr w x
/-- the set of texts at a: l names its members (each at least once) -/
def SetT (w : World) (h : Heap) (a : Addr) (l : List Str) : Prop :=
  ∃ o es ep t, h.get? a = some o ∧ o.ExactSet ∧ o.data = .set es ep t ∧ (∀ e ∈ es.toList, GoodT w e) ∧ (es.toList.map keyT).Nodup ∧ (∀ k, k ∈ l ↔ k ∈ es.toList.map keyT) ∧
    es.size < scanBound ∧ t.fits es.size = true ∧ es.size ≤ l.length ∧ Ris t.place.toList ∧ (w.params.followText "set-order" = true ∨ t.led = true)
section
variable {P : Program} {w : World} {h h' : Heap} {a : Addr} {l : List Str}
theorem SetT.at (R : SetT w h a l) (k : ∀ o, h.get? a = some o → h'.get? a = some o) : SetT w h' a l :=
  let ⟨o, es, ep, t, ho, r⟩ := R
  ⟨o, es, ep, t, k o ho, r⟩
theorem goodT_elems {l : List (Int × Value)} (g : ∀ e ∈ l, GoodT w e) : ElemsOf (strKind P w) l := fun e he =>
  let ⟨x, t, h1, h2⟩ := g e he
  ⟨⟨x, by rw [h1]; exact strKind_is P w x t, h2⟩, by rw [h1] <;> rfl⟩
theorem goodT_is {e : Int × Value} (g : GoodT w e) (k : Str) : (strKind P w).is k e.2 = true ↔ keyT e = k := by
  obtain ⟨x, t, h1, _⟩ := g
  have e1 : keyT e = x := by unfold keyT; rw [h1]
  rw [e1, h1]
  constructor
  · intro z
    have z2 : Value.isStrOf k (.str x t) = true := z
    obtain ⟨u, hu⟩ := Value.isStrOf_shape z2
    injection hu
  · rintro rfl
    exact strKind_is P w x t
theorem goodT_mem {l : List (Int × Value)} (g : ∀ e ∈ l, GoodT w e) (k : Str) : k ∈ l.map keyT ↔ ∃ e ∈ l, (strKind P w).is k e.2 = true := by
  rw [List.mem_map]
  exact ⟨fun ⟨e, he, q⟩ => ⟨e, he, (goodT_is (g e he) k).2 q⟩, fun ⟨e, he, q⟩ => ⟨e, he, (goodT_is (g e he) k).1 q⟩⟩
theorem SetT.isSet (R : SetT w h a l) : ∃ n, ∃ S : Str → Bool, h.SetOf (strKind P w) a S n := by
  obtain ⟨o, es, ep, t, ho, hx, hd, g, nd, hm, hb, hf, hn, _⟩ := R
  exact ⟨es.size, fun k => decide (k ∈ es.toList.map keyT), o, es, ep, t, ho, hx, hd, goodT_elems g, fun k => decide_eq_true_iff.trans (goodT_mem g k), hb, hf, rfl⟩
end
section
variable {P : Program} {w : World} {A : Around} {E : Value → Shared → Prop} {s : Shared} {a : Addr} {l : List Str}
/-- the end of an add: the new table is stored, and made anew where it's too full -/
theorem addT_tail {g : Bool → Sem Unit} (hg : ∀ (b : Bool) (s₁ : Shared) (Q' : Unit → Shared → Prop), Q' () s₁ → wpAny (model P w) A (g b) Q' E s₁)
    {o : Obj} {es : Array (Int × Value)} {ep : Nat} {t : SetTable} (ho : s.heap.get? a = some o) (hex : o.ExactSet) (hd : o.data = .set es ep t)
    {es1 : Array (Int × Value)} {t2 : SetTable} {l' : List Str} (g1 : ∀ e ∈ es1.toList, GoodT w e) (nd1 : (es1.toList.map keyT).Nodup) (m1 : ∀ k, k ∈ l' ↔ k ∈ es1.toList.map keyT)
    (hb1 : es1.size < scanBound) (hl1 : es1.size ≤ l'.length) (hf2 : t2.fits es1.size = true) (hr : Ris t2.place.toList) (hl : w.params.followText "set-order" = true ∨ t2.led = true) {wasDummy : Bool} {R : Option Bool → Shared → Prop}
    (hR : ∀ h', Heap.SameBut a s.heap h' → SetT w h' a l' → R (some true) { s with heap := h' }) :
    wpAny (model P w) A (do
        storeSet a es1 t2
        if (!wasDummy && t2.tooFull) = true then do
            g (relayAll t2 es1 (SetTable.grown es1.size)).2.2
            storeSet a (relayAll t2 es1 (SetTable.grown es1.size)).1 (relayAll t2 es1 (SetTable.grown es1.size)).2.1
            pure (some true)
          else pure (some true)) R E s := by
  refine wpAny_bind (wpAny_storeSet_of ho hd ?_ (fits_of_scanBound hb1))
  have ho1 := PpSet.storeB_at (es' := es1) (t' := t2) ho hd
  have sb1 := Heap.SameBut.update s.heap a (Obj.putSet es1 t2)
  split
  · have pm := relayAll_perm t2 es1 (SetTable.grown es1.size)
    have q1 := relayAll_fits t2 es1 (SetTable.grown es1.size)
    have q2 := relayAll_ris t2 es1 (SetTable.grown es1.size)
    have q3 := relayAll_led t2 es1 (SetTable.grown es1.size)
    generalize relayAll t2 es1 (SetTable.grown es1.size) = Z at pm q1 q2 q3 ⊢
    obtain ⟨es2, t3, gave⟩ := Z
    dsimp only at pm q1 q2 q3 ⊢
    have hsz : es2.size = es1.size := by
      have := pm.length_eq
      simpa using this
    refine wpAny_bind (hg _ _ _ ?_)
    refine wpAny_bind (wpAny_storeSet_of ho1 rfl ?_ (fits_of_scanBound (by rw [hsz]; exact hb1)))
    refine wpAny_pure (hR _ (sb1.trans (Heap.SameBut.update _ a _)) ⟨_, es2, _, t3, PpSet.storeB_at (es' := es2) (t' := t3) ho1 rfl, hex, rfl, fun e he => g1 e (pm.mem_iff.mp he), (pm.map keyT).nodup_iff.mpr nd1,
      fun k => (m1 k).trans (pm.map keyT).mem_iff.symm, by rw [hsz]; exact hb1, q1, by rw [hsz]; exact hl1, q2, hl.imp id fun z => by rw [q3]; exact z⟩)
  · exact wpAny_pure (hR _ sb1 ⟨_, es1, _, t2, ho1, hex, rfl, g1, nd1, m1, hb1, hf2, hl1, hr, hl⟩)
theorem addT_hashed {x : Str} {tk : Tok} {Q : Bool → Shared → Prop} (R : SetT w s.heap a l) (room : l.length + 1 < scanBound)
    (hQ : ∀ b h', Heap.SameBut a s.heap h' → SetT w h' a (x :: l) → Q b { s with heap := h' }) :
    wpAny (model P w) A (setAddHashed a (.str x tk) ((strKind P w).hash x)) Q E s := by
  obtain ⟨o, es, ep, t, ho, hex, hd, g, nd, hm, hb, hf, hn, hr, hl⟩ := R
  have hkey : (strKind P w).is x (.str x tk) = true := strKind_is P w x tk
  have hsc : (Value.str x tk).scannable = true := rfl
  have hel : ElemsOf (strKind P w) es.toList := goodT_elems g
  unfold setAddHashed setAddHashedIn
  refine wpAny_holding (wpAny_bind (wpAny_setState_of ho hd hf ?_))
  dsimp only
  rw [byScan_of hsc hb hel]
  simp only [↓reduceIte]
  unfold setAddByScan
  refine wpAny_bind ?_
  refine wpAny_bind (wpAny_rule ?_)
  refine wpAny_bind (wpAny_setScan_of hkey ho hd hf hel ?_)
  cases hfi : List.findIdx? (fun e => (strKind P w).is x e.2) es.toList with
  | some j =>
    dsimp only
    obtain ⟨hj, pj, _⟩ := List.findIdx?_eq_some_iff_getElem.mp hfi
    have hx : x ∈ es.toList.map keyT := (goodT_mem (P := P) (w := w) g x).2 ⟨es.toList[j], List.getElem_mem hj, pj⟩
    refine wpAny_pure (wpAny_pure ?_)
    exact hQ _ s.heap (Heap.SameBut.refl a s.heap) ⟨o, es, ep, t, ho, hex, hd, g, nd, fun i => by
      rw [List.mem_cons, hm i]
      exact ⟨fun z => z.elim (fun e => e ▸ hx) id, .inr⟩, hb, hf, Nat.le_succ_of_le hn, hr, hl⟩
  | none =>
    dsimp only
    have hnk : x ∉ es.toList.map keyT := fun z => by
      obtain ⟨e, he, q⟩ := (goodT_mem (P := P) (w := w) g x).1 z
      have c := List.findIdx?_eq_none_iff.mp hfi e he
      rw [q] at c
      cases c
    have hgw : ∀ (b : Bool) {s₁ : Shared} {Q' : Unit → Shared → Prop}, Q' () s₁ → wpAny (model P w) A (match b with | true => rule "set.scan.the-table-gave-way" | false => pure ()) Q' E s₁ :=
      fun b s₁ Q' q => by cases b <;> first | exact wpAny_pure q | exact wpAny_rule q
    have pm := layNew_perm t es ((strKind P w).hash x) (.str x tk)
    have q1 := layNew_fits t es ((strKind P w).hash x) (.str x tk)
    have q2 := layNew_ris t es ((strKind P w).hash x) (.str x tk) hr
    have q3 := layNew_led t es ((strKind P w).hash x) (.str x tk)
    generalize layNew t es ((strKind P w).hash x) (.str x tk) = Z at pm q1 q2 q3 ⊢
    obtain ⟨es1, t1, wasDummy, gave⟩ := Z
    dsimp only at pm q1 q2 q3 ⊢
    rw [Array.toList_push] at pm
    have pc : es1.toList.Perm (((strKind P w).hash x, Value.str x tk) :: es.toList) := pm.trans (List.perm_append_singleton _ _)
    have pk : (es1.toList.map keyT).Perm (x :: es.toList.map keyT) := pc.map keyT
    have g1 : ∀ e ∈ es1.toList, GoodT w e := fun e he => by
      rcases List.mem_cons.mp (pc.mem_iff.mp he) with z | z
      · rw [z]; exact ⟨x, tk, rfl, rfl⟩
      · exact g e z
    have nd1 : (es1.toList.map keyT).Nodup := pk.nodup_iff.mpr (List.nodup_cons.mpr ⟨hnk, nd⟩)
    have m1 : ∀ i, i ∈ (x :: l) ↔ i ∈ es1.toList.map keyT := fun i => by
      rw [pk.mem_iff, List.mem_cons, List.mem_cons, hm i]
    have hsz : es1.size = es.size + 1 := by
      have := pc.length_eq
      simpa using this
    have hl1 : es1.size ≤ (x :: l).length := by rw [hsz]; exact Nat.succ_le_succ hn
    have hb1 : es1.size < scanBound := Nat.lt_of_le_of_lt hl1 room
    have hled : w.params.followText "set-order" = true ∨ t1.led = true := hl.imp id fun z => by rw [q3]; exact z
    refine wpAny_bind (hgw _ ?_)
    split
    · refine wpAny_bind ?_
      rw [hashByValue_scannable 8 hsc]
      refine wpAny_pure ?_
      refine addT_tail ?_ ho hex hd g1 nd1 m1 hb1 hl1 ?_ ?_ ?_ ?_
      · intro b s₁ Q' q; cases b <;> first | exact wpAny_pure q | exact wpAny_rule q
      · first | (split <;> first | exact q1 | exact SetTable.fits_plain_off q1) | exact q1
      · first | (split <;> exact q2) | exact q2
      · first | (split <;> exact hled) | exact hled
      · intro h' sb r; dsimp only; exact wpAny_pure (hQ _ h' sb r)
    · refine wpAny_bind (wpAny_pure ?_)
      simp only [↓reduceIte]
      refine addT_tail ?_ ho hex hd g1 nd1 m1 hb1 hl1 q1 q2 hled ?_
      · intro b s₁ Q' q; cases b <;> first | exact wpAny_pure q | exact wpAny_rule q
      · intro h' sb r; dsimp only; exact wpAny_pure (hQ _ h' sb r)
theorem addT {x : Str} {tk : Tok} {Q : Value → Shared → Prop} (R : SetT w s.heap a l) (room : l.length + 1 < scanBound)
    (hQ : ∀ h' n, Heap.SameBut a s.heap h' → SetT w h' a (x :: l) → Q .none { s with heap := h', toks := n }) :
    wpAny (model P w) A (call (.builtin "set.add") [.ref a, .str x tk]) Q E s := by
  obtain ⟨n0, S0, hS⟩ := R.isSet (P := P)
  refine wpAny_call_entry F.slot_set_add hS.typeIs F.entry_set_add ?_ (F.args_set_add_2 _ _)
  unfold Builtin.«set.add» Builtin.Frozenset.oneOther
  simp only [List.isEmpty_nil, bind_assoc]
  unfold Builtin.Frozenset.addrOf setAdd
  refine wpAny_bind (wpAny_pure ?_)
  try dsimp only
  refine wpAny_bind (wpAny_pure ?_)
  try dsimp only
  refine wpAny_bind ?_
  refine wpAny_holding ?_
  refine wpAny_bind ((strKind P w).pyHash (strKind_is P w x tk) ?_)
  refine addT_hashed (s := { s with toks := s.toks + 1 }) R room fun b h' sb r => ?_
  show wpAny _ _ (ret Value.none) _ _ _
  exact wpAny_pure ⟨_, rfl, hQ h' _ sb r⟩
theorem setT_fresh {h : Heap} (w : World) : SetT w (h.push { cls := .type "set", dict := none, data := .set #[] 0 (.fresh 0 0 (!w.params.followText "set-order")) }) h.objs.size [] :=
  ⟨_, #[], 0, _, Heap.get?_push_size _ rfl, ⟨rfl, rfl, rfl⟩, rfl, (fun e he => by simp at he), (by simp), (fun k => by simp), (by decide), (by rfl), Nat.le_refl _, List.Pairwise.nil, by
    show _ ∨ (!w.params.followText "set-order") = true
    cases w.params.followText "set-order"
    · exact .inr rfl
    · exact .inl rfl⟩
end
/-! ### as tracked things -/
def SetTO (w : World) (a : Addr) (l : List Str) : HO := .ext fun h => SetT w h a l
theorem setTO_new {w : World} {P : Program} {H : Hp} {h : Heap} {a : Addr} {l : List Str} (R : SetT w h a l) : ObjOk P w H h a (SetTO w a l) :=
  let ⟨o, _, _, _, ho, _⟩ := R
  ⟨R, ⟨o, ho⟩, fun _ _ p k => SetT.at p k⟩
section
variable {X : Cx}
theorem setTO_get {pins : List (Addr × Obj)} {σ : L2.St} {H : Hp} {s : Shared} {a : Addr} {l : List Str} (I : Inv X pins σ H s) (ha : H a = some (SetTO X.w a l)) : SetT X.w s.heap a l := (I.hok a _ ha).1
theorem addT_ok {pins : List (Addr × Obj)} {σ : L2.St} {H : Hp} {s : Shared} {E : Value → Shared → Prop} {D : Addr} {l : List Str} {x : Str} {tk : Tok} {Q : Value → Shared → Prop} (I : Inv X pins σ H s) (hD : H D = some (SetTO X.w D l)) (room : l.length + 1 < scanBound)
    (h : ∀ s', Inv X pins σ (upd H D (SetTO X.w D (x :: l))) s' → Q .none s') : wpAny (model X.prog X.w) X.A (call (.builtin "set.add") [.ref D, .str x tk]) Q E s := by
  refine addT (setTO_get I hD) room fun h' n sb new => ?_
  have he : ∃ u, h'.get? D = some u := let ⟨o, _, _, _, ho, _⟩ := new; ⟨o, ho⟩
  exact h _ (I.write (e := D) (t' := n) (by rw [hD]; trivial) (.inl rfl) (fun b u hb hu => (sb.2 b hb).trans hu) he (setTO_new new))
/-- {elt for target in iter if ..}, elt a text -/
def tScT (w : World) (wi : TI) (g : TG) (tt : TT) (te : TE) (vs : List Nat) : TE := fun σ H Q => wi σ H fun J H1 => ∀ D, H1 D = none → ∃ W : Nat → Nat → Hp → Prop, (∃ m, W 0 m (upd H1 D (SetTO w D []))) ∧ ∀ i m H, W i m H →
  (J.stop i H ∧ Q (.ref D) H) ∨ (J.go i H ∧ ∃ Nx : Hp → Prop, (∀ H', Nx H' → ∃ m', m' < m ∧ W (i + 1) m' H') ∧ ∀ x H', J.yld i H x H' → g x (wipe σ vs) H' fun σ2 H2 => wipe σ2 vs = wipe σ vs ∧ tt σ2 H2 fun b H3 =>
    if b = true then te σ2 H3 fun y H4 => ∃ (x : Str) (l : List Str), y = .str x ∧ H4 D = some (SetTO w D l) ∧ l.length + 1 < scanBound ∧ Nx (upd H4 D (SetTO w D (x :: l))) else Nx H3)
abbrev setObj (w : World) : Obj := { cls := .type "set", dict := none, data := .set #[] 0 (.fresh 0 0 (!w.params.followText "set-order")) }
theorem pe_scT {elt tg iter : Expr} {ifs : List Expr} {scope : Scope} {own : List (PySem.Str × Nat)} {pos : Pos} {wi : TI} {g : TG} {tt : TT} {te : TE} (hc : X.calm = true) (hN : X.N.Nodup) (hi : PI X tg iter wi) (ok : BlkOk X.N X.env.scope scope own)
    (hg : ∀ (s : Shared) (H : Hp) (C : Addr) (cl : List (PySem.Str × Addr)) (fp : List Addr), PG (X.blk s H scope (compEnvC scope cl C X.env) fp) tg g) (ht : ∀ (s : Shared) (H : Hp) (C : Addr) (cl : List (PySem.Str × Addr)) (fp : List Addr), PTs (X.blk s H scope (compEnvC scope cl C X.env) fp) ifs tt)
    (he : ∀ (s : Shared) (H : Hp) (C : Addr) (cl : List (PySem.Str × Addr)) (fp : List Addr), PE (X.blk s H scope (compEnvC scope cl C X.env) fp) elt te) (hs : ∀ x, foldedSetIterable iter X.env x = pure x := by intro _; rfl) :
    PE X (.SetComp elt [⟨tg, iter, ifs, 0⟩] scope pos) (tScT X.w wi g tt te (own.map (·.2))) := by
  refine ⟨fun pins s σ H Q I h => ?_⟩
  rw [PpSet.eval_SetComp]
  have hfree : ∀ y ∈ scope.names, y.2 = .free → ∃ c, X.env.cells.lookup y.1 = some c := fun y hy e =>
    (ok.free y hy e).elim (fun k => I.ok.has _ (.inl k)) fun k => I.ok.has _ (.inr k)
  refine wpAny_comprehension_free (use := none) rfl hs (closure_ok hfree) ok.kind (fun y hy e => by rw [ok.uniq y hy, e])
    (thn (hi.run pins s σ H _ I h) fun xv s1 hx => thn hx fun itv s2 h2 => ?_)
  obtain ⟨it, fp, tn, J, H2, e, I2, T, st2, f2, q⟩ := h2
  subst e
  refine PpSet.newSet_ok (newEnv_comp ?_)
  generalize hD : s2.heap.objs.size = D
  obtain ⟨W, ⟨m0, w0⟩, turn⟩ := q D (I2.hok.fresh (Nat.le_of_eq hD))
  generalize hs3 : ({ s2 with heap := s2.heap.push (setObj X.w) } : Shared) = s3
  have I3 : Inv X pins σ (upd H2 D (SetTO X.w D [])) s3 := by
    rw [← hs3]
    refine I2.laid (t' := s2.toks) (fun b o e => Heap.get?_push_of_some _ e) (Nat.le_of_eq hD) ?_
    rw [← hD]
    exact setTO_new (setT_fresh X.w)
  have h3 : s3.heap = s2.heap.push (setObj X.w) := by rw [← hs3]
  have f3 : ∀ b ∈ fp, FpOk X pins (upd H2 D (SetTO X.w D [])) b ∧ b < s3.heap.objs.size := fun b hb => by
    obtain ⟨o, e, _⟩ := T.obj _ _ st2 b hb
    have hlt : b < s2.heap.objs.size := Heap.lt_size e
    refine ⟨⟨?_, (f2 b hb).2⟩, by rw [h3, Heap.size_push]; exact Nat.lt_succ_of_lt hlt⟩
    rw [upd_ne (by rw [← hD]; exact Nat.ne_of_lt hlt)]
    exact (f2 b hb).1
  have st3 : tn 0 s3.heap := T.keep _ _ _ st2 fun b _ o e => by rw [h3]; exact Heap.get?_push_of_some _ e
  have I4 := block_start I3 ok hN f3
  have pg := hg s3 (upd H2 D (SetTO X.w D [])) s3.heap.objs.size (cellsFrom (s3.heap.objs.size + 1) scope.names (cloFrom X.env.cells scope.names [])) fp
  have pt := ht s3 (upd H2 D (SetTO X.w D [])) s3.heap.objs.size (cellsFrom (s3.heap.objs.size + 1) scope.names (cloFrom X.env.cells scope.names [])) fp
  have pe := he s3 (upd H2 D (SetTO X.w D [])) s3.heap.objs.size (cellsFrom (s3.heap.objs.size + 1) scope.names (cloFrom X.env.cells scope.names [])) fp
  show codeAny _ _ (.compStart (.SetComp elt [⟨tg, iter, ifs, 0⟩] scope pos) 0 (.ref it) (.ref D) (compEnvC scope (cellsFrom (s3.heap.objs.size + 1) scope.names (cloFrom X.env.cells scope.names [])) s3.heap.objs.size X.env)) (compPost (model X.prog X.w) X.A X.xe none _ (.ref D) s3.heap.objs.size) { s3 with heap := pushCells (s3.heap.push { cls := .type "dict", data := .dict #[] }) scope.names }
  have nfp : ∀ b ∈ fp, (upd H2 D (SetTO X.w D [])) b = none := fun b hb => (f3 b hb).1.1
  generalize hce : compEnvC scope (cellsFrom (s3.heap.objs.size + 1) scope.names (cloFrom X.env.cells scope.names [])) s3.heap.objs.size X.env = ce at I4 pg pt pe ⊢
  have cL : ce.locals = s3.heap.objs.size := by subst hce; rfl
  generalize hH3 : upd H2 D (SetTO X.w D []) = H3 at I3 I4 pg pt pe w0 nfp f3
  generalize hs4 : ({ s3 with heap := pushCells (s3.heap.push { cls := .type "dict", data := .dict #[] }) scope.names } : Shared) = s4 at I4 ⊢
  have st4 : tn 0 s4.heap := T.keep _ _ _ st3 fun b _ o e => by rw [← hs4]; exact pushCells_keeps _ _ _ _ (Heap.get?_push_of_some _ e)
  have stat : ∀ {σ' : L2.St} {H' : Hp} {s' : Shared}, Inv (X.blk s3 H3 scope ce fp) [] σ' H' s' → (∀ b ∈ fp, H' b = none) → ∀ b ∈ fp, FpOk (X.blk s3 H3 scope ce fp) [] H' b := fun {σ' H' s'} I' hn b hb =>
    ⟨hn b hb, (I'.ok.exf b hb).1, I'.ok.exfs b hb, .inl hb, fun x c e => (I'.ok.exf b hb).2 x c e, fun p hp => absurd (show p ∈ ([] : List (Addr × Obj)) ++ [] from hp) (by simp)⟩
  have loop : codeAny (model X.prog X.w) X.A (.compLoop (.SetComp elt [⟨tg, iter, ifs, 0⟩] scope pos) 0 (.ref it) (.ref D) ce) (compPost (model X.prog X.w) X.A X.xe none (fun u s' => EP X pins σ Q u s') (.ref D) s3.heap.objs.size) s4 := by
    refine PpSet.compLoopS_any (fun n s' => ∃ i H', Inv (X.blk s3 H3 scope ce fp) [] (wipe σ (own.map (·.2))) H' s' ∧ tn i s'.heap ∧ (∀ b ∈ fp, H' b = none) ∧ W i n H') ?_ m0 ⟨0, H3, I4, st4, nfp, w0⟩
    rintro n s5 ⟨i, H5, I5, st5, n5, w5⟩
    rcases turn i n H5 w5 with ⟨stop, qq⟩ | ⟨go, Nx, hNx, step⟩
    · refine thnF (T.done (X.blk s3 H3 scope ce fp) rfl rfl rfl hc i [] s5 _ H5 (fun _ _ => False) I5 (stat I5 n5) st5 stop) fun r s6 ⟨hr, I6⟩ => ?_
      subst hr
      have I7 : Inv X pins σ H5 s6 := I3.call' (ch := fp) I6.os I6.base I6.hok I6.bare fun b hb => let z := (f3 b hb).1.2; ⟨z.2.2.1, z.1, z.2.2.2.1, z.2.2.2.2⟩
      have nC : H5 s3.heap.objs.size = none := by
        have z : H5 ce.locals = none := I6.free
        rw [cL] at z
        exact z
      obtain ⟨m, hn, _⟩ := I6.loc
      have hn : s6.heap.Ns ce.locals m := hn
      rw [cL] at hn
      obtain ⟨f0, f1, f2, f3, f4, f5⟩ := I3.fpOk (Nat.le_refl _) nC
      exact ⟨m, hn, fun h'' sb => ⟨.ref D, H5, I7.turned (t' := s6.toks) (fun b o hb e => (sb.2 b hb).trans e) f0 f1 f3 f4 f5, rfl, qq⟩⟩
    · refine thnF (T.item (X.blk s3 H3 scope ce fp) rfl rfl rfl hc i [] s5 _ H5 (fun _ _ => False) I5 (stat I5 n5) st5 go) fun r s6 ⟨u, hr, h6⟩ => ?_
      subst hr
      refine thnF h6 fun _ s7 ⟨x, H7, I7, r7, y7, st7, n7⟩ => ?_
      refine thnF (pg.run _ s7 _ H7 x u _ (I7.pinned (stat I7 n7) (T.obj _ _ st7)) r7 (step x H7 y7)) fun _ s8 ⟨σ8, H8, I8, hw8, q8⟩ => ?_
      refine thnF (pt.run _ s8 σ8 H8 _ I8 q8) fun b s9 ⟨H9, I9, q9⟩ => ?_
      have fin : ∀ {s' : Shared} {H' : Hp}, Inv (X.blk s3 H3 scope ce fp) ([] ++ pinsAt fp s7.heap) σ8 H' s' → Nx H' → ∃ m, m < n ∧ ∃ i H', Inv (X.blk s3 H3 scope ce fp) [] (wipe σ (own.map (·.2))) H' s' ∧ tn i s'.heap ∧ (∀ b ∈ fp, H' b = none) ∧ W i m H' := fun {s' H'} I' nx => by
        obtain ⟨m', hm, w'⟩ := hNx H' nx
        have pin' : ∀ b ∈ fp, ∀ o, s7.heap.get? b = some o → s'.heap.get? b = some o ∧ H' b = none := fun b hb o e =>
          let z := I'.pin (b, o) (List.mem_append_right _ (List.mem_append_right _ (mem_pinsAt hb e)))
          ⟨z.1, z.2.1⟩
        refine ⟨m', hm, i + 1, H', (I'.unpinned (pins := [])).weak (by rw [← hw8, wipe_length]) (fun j v e => ?_), T.keep _ _ _ st7 fun b hb o e => (pin' b hb o e).1, fun b hb => ?_, w'⟩
        · rw [← hw8] at e
          exact (wipe_some e).1
        · obtain ⟨o, e, _⟩ := T.obj _ _ st7 b hb
          exact (pin' b hb o e).2
      cases b with
      | false => exact fin I9 q9
      | true =>
        refine thnF (pe.run _ s9 σ8 H9 _ I9 q9) fun z s10 ⟨yv, H10, I10, r10, x0, l0, ey, hD10, hz10, nx⟩ => ?_
        subst ey
        obtain ⟨tk, rfl⟩ := r10
        exact addT_ok (X := X.blk s3 H3 scope ce fp) I10 hD10 hz10 fun s11 I11 => fin I11 nx
  exact PpSet.codeAny_compStart_set loop (T.self X.A 0 _ _ _ st4 loop)
/-- over a list that the block leaves as it is -/
theorem scT_list {w : World} {K : PySem.W.Frag} {a : Addr} {xs : List V} {g : TG} {tt : TT} {te : TE} {vs : List Nat} {σ : L2.St} {H1 : Hp} {D : Addr} {Qd : Hp → Prop} {J : It} (Pv : Nat → Hp → Prop) (h0 : Pv 0 (upd H1 D (SetTO w D [])))
    (stop : ∀ H, Pv xs.length H → J.stop xs.length H) (go : ∀ i H, i < xs.length → Pv i H → J.go i H) (yl : ∀ i x H H', Pv i H → J.yld i H x H' → xs[i]? = some x ∧ H' = H)
    (hs : ∀ i x H, xs[i]? = some x → Pv i H → g x (wipe σ vs) H fun σ2 H2 => wipe σ2 vs = wipe σ vs ∧ tt σ2 H2 fun b H3 =>
      if b = true then te σ2 H3 fun y H4 => ∃ (x : Str) (l : List Str), y = .str x ∧ H4 D = some (SetTO w D l) ∧ l.length + 1 < scanBound ∧ Pv (i + 1) (upd H4 D (SetTO w D (x :: l))) else Pv (i + 1) H3) (hd : ∀ H, Pv xs.length H → Qd H) :
    ∃ W : Nat → Nat → Hp → Prop, (∃ m, W 0 m (upd H1 D (SetTO w D []))) ∧ ∀ i m H, W i m H →
      (J.stop i H ∧ Qd H) ∨ (J.go i H ∧ ∃ Nx : Hp → Prop, (∀ H', Nx H' → ∃ m', m' < m ∧ W (i + 1) m' H') ∧ ∀ x H', J.yld i H x H' → g x (wipe σ vs) H' fun σ2 H2 => wipe σ2 vs = wipe σ vs ∧ tt σ2 H2 fun b H3 =>
        if b = true then te σ2 H3 fun y H4 => ∃ (x : Str) (l : List Str), y = .str x ∧ H4 D = some (SetTO w D l) ∧ l.length + 1 < scanBound ∧ Nx (upd H4 D (SetTO w D (x :: l))) else Nx H3) := by
  refine ⟨fun i m H => m = xs.length - i ∧ i ≤ xs.length ∧ Pv i H, ⟨xs.length, by simp, Nat.zero_le _, h0⟩, ?_⟩
  rintro i m H ⟨rfl, hi, p⟩
  by_cases hlt : i < xs.length
  · refine .inr ⟨go i H hlt p, Pv (i + 1), fun H' p' => ⟨xs.length - (i + 1), by omega, rfl, hlt, p'⟩, fun x H' y => ?_⟩
    obtain ⟨e1, rfl⟩ := yl i x H H' p y
    exact hs i x _ e1 p
  · have e : i = xs.length := by omega
    subst e
    exact .inl ⟨stop H p, hd H p⟩
/-- sorted of such a set, fewer than 64 -/
def rSortedT (w : World) : List V → Hp → VK → Prop := fun vs H Q => ∃ (a : Addr) (l : List Str), vs = [V.ref a] ∧ H a = some (SetTO w a l) ∧ l.length < 64 ∧
  ∀ (ys : List Str) (p : Addr), (∀ k, k ∈ ys ↔ k ∈ l) → ys.length ≤ l.length → H p = none → Q (.ref p) (upd H p (.lst (ys.map V.str)))
theorem cr_sortedT (hc : X.calm = true) : CallR X (.builtin "sorted") (rSortedT X.w) := by
  intro pins s σ H vs us Q I r h
  obtain ⟨a, l, rfl, ha, h64, q⟩ := h
  obtain ⟨o, es, ep, t, ho, hex, hd, g, nd, hm, hb, hf, hn, hr, hl⟩ := setTO_get I ha
  rw [Vals.ref1 r]
  have hh := I.ok.hd hc
  refine Calls.call_function_entry kind_sorted plain_sorted entry_sorted (args_sorted1 _) ?_
  unfold Builtin.«sorted»
  refine wpAny_bind (m := checkCount "sorted" 1 1 _) (wpAny_pure ?_)
  refine wpAny_bind (collect_set (A := X.A.in1) hh ⟨o, ho, hex.1, hd⟩ hf hb hr hl fun s1 vs k1 hz g1 o1 pm => ?_)
  have hvl : vs.length = es.size := by
    have := pm.length_eq
    simpa using this
  have hI : StrsAre vs (vs.map strOf) := strsAre_map vs fun v hv => by
    obtain ⟨e, he, q⟩ := List.mem_map.mp (pm.mem_iff.mp hv)
    obtain ⟨x, tk, h1, _⟩ := g e he
    exact ⟨x, tk, by rw [← q]; exact h1⟩
  have pk : (vs.map strOf).Perm (es.toList.map keyT) := by
    have q := pm.map strOf
    rw [List.map_map] at q
    exact q
  have h64' : vs.length < 64 := by omega
  refine wpAny_bind (wpAny_newList ?_ (by rw [sizeLine_eq]; omega))
  have hoL : (s1.heap.push (seqObj "list" vs.toArray 0)).get? s1.heap.objs.size = some (seqObj "list" vs.toArray 0) := Heap.get?_push_size _ rfl
  refine wpAny_bind (wpAny_holding (wpAny_call_entry slot_list_sort ⟨_, hoL, rfl⟩ entry_list_sort (list_sort_treeK strKind_oneLt hoL hI.keysOf (fun v₁ v₂ rest e => keyKind_strs (by rw [← e]; exact hI)) h64' fun st' hp hs => ⟨_, rfl, ?_⟩) (args_list_sort _)))
  obtain ⟨ys, a1, a2, a3⟩ := sorted_out_str hI hp hs
  generalize ((arrOf st').map (·.2)) = out at a1 ⊢
  obtain ⟨c, hcc⟩ := sortedHeap_at (vs := vs) (out := out) hoL
  have pn : ys.Perm (es.toList.map keyT) := a2.trans pk
  have hln : ys.length = es.size := by
    have := pn.length_eq
    simpa using this
  have hlen : (ys.map V.str).length ≤ sizeLine := by rw [List.length_map, sizeLine_eq]; omega
  have kk : ∀ b u, s.heap.get? b = some u → (sortedHeap (s1.heap.push (seqObj "list" vs.toArray 0)) s1.heap.objs.size vs out).get? b = some u := fun b u e => by
    have q := k1 b u e
    have hlt := Heap.lt_size q
    rw [sortedHeap_old (Nat.ne_of_lt hlt) (by rw [size_push']; exact Nat.lt_succ_of_lt hlt)]
    exact Heap.get?_push_of_some _ q
  have hnn : H s1.heap.objs.size = none := I.hok.fresh hz
  refine wpAny_pure ⟨_, rfl, ⟨.ref s1.heap.objs.size, upd H s1.heap.objs.size (.lst (ys.map V.str)), ?_, rfl, q ys _ (fun k => by rw [pn.mem_iff, hm k]) (by omega) hnn⟩⟩
  have J : Inv X pins σ (upd H s1.heap.objs.size (.lst (ys.map V.str))) { s with heap := sortedHeap (s1.heap.push (seqObj "list" vs.toArray 0)) s1.heap.objs.size vs out, gens := s1.gens, drawn := s1.drawn, toks := s1.toks } :=
    I.call (ch := []) (Un.laid kk hz hnn) (I.hok.laid kk hz ⟨hlen, out.toList, c, vals_of_strs a1, hcc⟩) (by rw [g1]; exact I.bare) (fun _ z => nomatch z)
  have e : ({ s1 with heap := sortedHeap (s1.heap.push (seqObj "list" vs.toArray 0)) s1.heap.objs.size vs out } : Shared) = { s with heap := sortedHeap (s1.heap.push (seqObj "list" vs.toArray 0)) s1.heap.objs.size vs out, gens := s1.gens, drawn := s1.drawn, toks := s1.toks } := by
    cases s1
    cases s
    cases o1
    rfl
  exact e ▸ J
end
end SetX

set_option Elab.async false
set_option linter.all false
set_option maxRecDepth 100000
set_option maxHeartbeats 2000000
/-! A dict comprehension with two clauses and tuples as keys. -/
namespace Dc2
open PySem PySem.Spec PyProof.Rows L2
section
variable {prog : Program} {w : World} {A : Around} {R : Result → Shared → Prop} {s : Shared} {kx vx t0 i0 t1 i1 : Expr} {scope : Scope} {pos : Pos} {it : Value} {D : Addr} {env : Env}
abbrev dcE (kx vx t0 i0 t1 i1 : Expr) (scope : Scope) (pos : Pos) : Expr := .DictComp kx vx [⟨t0, i0, [], 0⟩, ⟨t1, i1, [], 0⟩] scope pos
theorem turn0 (kx vx t0 i0 t1 i1 : Expr) (scope : Scope) (pos : Pos) (it acc : Value) (env : Env) :
    compTurn (dcE kx vx t0 i0 t1 i1 scope pos) 0 it acc env = (do
      standAt i0.pos
      match ← pyNext it with
      | none => pure (.done .next)
      | some v =>
        letOwnedTupleGo t0 it v
        assign t0 env v
        let x ← eval i1 env
        standAt i1.pos
        let x ← foldedSetIterable i1 env x
        let _ ← runOwn (.compStart (dcE kx vx t0 i0 t1 i1 scope pos) 1 (← holding [x] (pyIter x)) acc env) env
        again (.compLoop (dcE kx vx t0 i0 t1 i1 scope pos) 0 it acc env)) := by rfl
theorem turn1 (kx vx t0 i0 t1 i1 : Expr) (scope : Scope) (pos : Pos) (it : Value) (D : Addr) (env : Env) :
    compTurn (dcE kx vx t0 i0 t1 i1 scope pos) 1 it (.ref D) env = (do
      standAt i1.pos
      match ← pyNext it with
      | none => pure (.done .next)
      | some v =>
        letOwnedTupleGo t1 it v
        assign t1 env v
        (do
          let kv ← eval kx env
          let vv ← holding [kv] (eval vx env)
          standAt { kx.pos with endLine := vx.pos.endLine, endCol := vx.pos.endCol }
          holding [kv, vv] (dictSet D kv vv))
        again (.compLoop (dcE kx vx t0 i0 t1 i1 scope pos) 1 it (.ref D) env)) := by rfl
/-- the first clause's loop -/
theorem loop0 (hs : ∀ x, foldedSetIterable i1 env x = pure x) (I : Nat → Shared → Prop)
    (turn : ∀ n s, I n s → wpAny (model prog w) A (pyNext it) (fun r s₁ => match r with
      | none => R (.ok .next) s₁
      | some v => wpAny (model prog w) A (letOwnedTupleGo t0 it v) (fun _ s₂ => wpAny (model prog w) A (assign t0 env v) (fun _ s₃ =>
          wpAny (model prog w) A (eval i1 env) (fun x s₄ => wpAny (model prog w) A (pyIter x) (fun it1 s₅ =>
            codeAny (model prog w) A (.compStart (dcE kx vx t0 i0 t1 i1 scope pos) 1 it1 (.ref D) env) (fun r s' => match r with
                | .ok _ => ∃ m, m < n ∧ I m s'
                | .error _ => False) s₅) (notedBy (model prog w) A env fun e s' => R (.error e) s') s₄) (notedBy (model prog w) A env fun e s' => R (.error e) s') s₃)
          (notedBy (model prog w) A env fun e s' => R (.error e) s') s₂) (notedBy (model prog w) A env fun e s' => R (.error e) s') s₁) (notedBy (model prog w) A env fun e s' => R (.error e) s') s)
    (n : Nat) (h : I n s) : codeAny (model prog w) A (.compLoop (dcE kx vx t0 i0 t1 i1 scope pos) 0 it (.ref D) env) R s := by
  refine codeAny_loop rfl I (fun n s hI => ?_) n h
  show wpAny _ A ((compTurn (dcE kx vx t0 i0 t1 i1 scope pos) 0 it (.ref D) env).onRaise (fun x => do noteFrame x env; theTreesLotGoes x)) _ _ s
  refine wpAny_noted ?_
  rw [turn0]
  refine wpAny_bind (wpAny_standAt (wpAny_bind (wpAny_mono (turn n s hI) (fun r s₁ h₁ => ?_) fun _ _ z => z)))
  cases r with
  | none => exact wpAny_pure h₁
  | some v =>
    refine wpAny_bind (wpAny_mono h₁ (fun _ s₂ h₂ => wpAny_bind (wpAny_mono h₂ (fun _ s₃ h₃ => wpAny_bind (wpAny_mono h₃ (fun x s₄ h₄ => ?_) fun _ _ z => z)) fun _ _ z => z)) fun _ _ z => z)
    refine wpAny_bind (wpAny_standAt (wpAny_bind (wpAny_of_eq (hs x) (wpAny_bind (wpAny_holding (wpAny_mono h₄ (fun it1 s₅ h₅ => ?_) fun _ _ z => z))))))
    refine wpAny_bind (wpAny_runOwn ?_)
    rw [Around.mark_none]
    refine codeAny_mono h₅ fun r s' hr => ?_
    cases r with
    | ok f =>
      first
        | exact wpAny_pure ⟨rfl, hr⟩
        | exact wpAny_bind (wpAny_pure (wpAny_pure ⟨rfl, hr⟩))
    | error e => exact hr.elim
/-- the second clause's loop -/
theorem loop1 (I : Nat → Shared → Prop)
    (turn : ∀ n s, I n s → wpAny (model prog w) A (pyNext it) (fun r s₁ => match r with
      | none => R (.ok .next) s₁
      | some v => wpAny (model prog w) A (letOwnedTupleGo t1 it v) (fun _ s₂ => wpAny (model prog w) A (assign t1 env v) (fun _ s₃ =>
          wpAny (model prog w) A (eval kx env) (fun kv s₄ => wpAny (model prog w) A (eval vx env) (fun vv s₅ =>
            wpAny (model prog w) A (dictSet D kv vv) (fun _ s₆ => ∃ m, m < n ∧ I m s₆) (notedBy (model prog w) A env fun e s' => R (.error e) s') s₅) (notedBy (model prog w) A env fun e s' => R (.error e) s') s₄) (notedBy (model prog w) A env fun e s' => R (.error e) s') s₃)
          (notedBy (model prog w) A env fun e s' => R (.error e) s') s₂) (notedBy (model prog w) A env fun e s' => R (.error e) s') s₁) (notedBy (model prog w) A env fun e s' => R (.error e) s') s)
    (n : Nat) (h : I n s) : codeAny (model prog w) A (.compLoop (dcE kx vx t0 i0 t1 i1 scope pos) 1 it (.ref D) env) R s := by
  refine codeAny_loop rfl I (fun n s hI => ?_) n h
  show wpAny _ A ((compTurn (dcE kx vx t0 i0 t1 i1 scope pos) 1 it (.ref D) env).onRaise (fun x => do noteFrame x env; theTreesLotGoes x)) _ _ s
  refine wpAny_noted ?_
  rw [turn1]
  refine wpAny_bind (wpAny_standAt (wpAny_bind (wpAny_mono (turn n s hI) (fun r s₁ h₁ => ?_) fun _ _ z => z)))
  cases r with
  | none => exact wpAny_pure h₁
  | some v =>
    refine wpAny_bind (wpAny_mono h₁ (fun _ s₂ h₂ => wpAny_bind (wpAny_mono h₂ (fun _ s₃ h₃ => ?_) fun _ _ z => z)) fun _ _ z => z)
    refine wpAny_bind (wpAny_bind (wpAny_mono h₃ (fun kv s₄ h₄ => ?_) fun _ _ z => z))
    exact wpAny_bind (wpAny_holding (wpAny_mono h₄ (fun vv s₅ h₅ => wpAny_bind (wpAny_standAt (wpAny_holding (wpAny_mono h₅ (fun _ s₆ h₆ => wpAny_pure ⟨rfl, h₆⟩) fun _ _ z => z)))) fun _ _ z => z))
theorem start1 (h0 : codeAny (model prog w) A (.compLoop (dcE kx vx t0 i0 t1 i1 scope pos) 1 it (.ref D) env) R s)
    (h : wpAny (model prog w) A (pyIter it) (fun it' s' => codeAny (model prog w) A (.compLoop (dcE kx vx t0 i0 t1 i1 scope pos) 1 it' (.ref D) env) R s')
      (notedBy (model prog w) A env fun x s' => R (.error x) s') s) :
    codeAny (model prog w) A (.compStart (dcE kx vx t0 i0 t1 i1 scope pos) 1 it (.ref D) env) R s := by
  refine codeAny_of_tree ?_
  show wpAny _ _ ((compStart (dcE kx vx t0 i0 t1 i1 scope pos) 1 it (.ref D) env).onRaise (fun x => do noteFrame x env; standAt theWindowsPlace)) _ _ s
  refine wpAny_notedAt ?_
  unfold compStart
  show wpAny _ _ (ask >>= _) _ _ s
  refine wpAny_bind (wpAny_askSetting (wpAny_ite ?_))
  split
  · first
      | exact wpAny_bind (wpAny_pure (wpAny_pure (And.intro rfl h0)))
      | exact wpAny_pure (And.intro rfl h0)
  · first
      | exact wpAny_bind (wpAny_rule (wpAny_bind (wpAny_standAt (wpAny_bind (wpAny_mono h (fun it' s' h' => wpAny_pure (And.intro rfl h')) fun _ _ x => x)))))
      | (refine wpAny_bind (wpAny_rule ?_); show wpAny _ _ (standAt i1.pos >>= _) _ _ s; exact wpAny_bind (wpAny_standAt (wpAny_bind (wpAny_mono h (fun it' s' h' => wpAny_pure (And.intro rfl h')) fun _ _ x => x))))
end
section
variable {X : Cx}
/-- d[(..)] = v by a comprehension -/
theorem setT_ok {pins : List (Addr × Obj)} {σ : L2.St} {H : Hp} {s : Shared} {E : Value → Shared → Prop} {D b : Addr} {kvs : List (List L2.Key × V)} {k : List L2.Key} {v : V} {r : Value} {Q : Unit → Shared → Prop} (hu : X.A.units + 1 < cLine) (I : Inv X pins σ H s) (hD : H D = some (.dT kvs)) (eb : H b = some (.tup (k.map kV))) (hz : kvs.length < sizeLine)
    (rv : RelV v r) (h : ∀ s', Inv X pins σ (upd H D (.dT (putK kvs k v))) s' → Q () s') : wpAny (model X.prog X.w) X.A (dictSet D (.ref b) r) Q E s := by
  obtain ⟨z, hd, xs, rel, dd⟩ := dt_of I.hok hD
  have hz2 : xs.length ≤ sizeLine := by rw [← Paired.length rel]; exact z
  have hl : (putK kvs k v).length ≤ sizeLine := by have := length_putK kvs k v; omega
  refine wpAny_dictSet_heap (hsz := hz2) (Nat.lt_of_succ_lt hu) (key_of I.hok eb) dd fun h' dd' hs => h _ ?_
  obtain ⟨q, es, ep, hq, h2, h3, h4, _, h5⟩ := dd'
  refine d_write I (by rw [hD]; exact True.intro) hs ⟨q, hq⟩ ⟨hl, hd, _, (rel.put k eb rv).keeps fun c ys ec => ?_, q, es, ep, hq, h2, h3, h4, h5⟩
  rw [upd_ne (ne_of ec hD (fun z => nomatch z))]
  exact ec
/-- {(..): v for tg in iter for tg1 in iter1}: D the new dict -/
def tDc2 (wi : TI) (g : TG) (wi1 : TI) (g1 : TG) (tk tv : TE) (vs vs1 : List Nat) : TE := fun σ H Q => wi σ H fun J H1 => ∀ D, H1 D = none → ∃ W : Nat → Nat → Hp → Prop, (∃ m, W 0 m (upd H1 D (.dT []))) ∧ ∀ i m H, W i m H →
  (J.stop i H ∧ Q (.ref D) H) ∨ (J.go i H ∧ ∃ Nx : Hp → Prop, (∀ H', Nx H' → ∃ m', m' < m ∧ W (i + 1) m' H') ∧ ∀ x H', J.yld i H x H' → g x (wipe σ vs) H' fun σ2 H2 => wipe σ2 vs = wipe σ vs ∧
    wi1 σ2 H2 fun J1 H4 => ∃ W1 : Nat → Nat → Hp → Prop, (∃ m, W1 0 m H4) ∧ ∀ j k H, W1 j k H →
      (J1.stop j H ∧ Nx H) ∨ (J1.go j H ∧ ∃ Nx1 : Hp → Prop, (∀ H', Nx1 H' → ∃ k', k' < k ∧ W1 (j + 1) k' H') ∧ ∀ x H', J1.yld j H x H' → g1 x (wipe σ2 vs1) H' fun σ3 H5 => wipe σ3 vs1 = wipe σ2 vs1 ∧
        tk σ3 H5 fun y H6 => tv σ3 H6 fun z H7 => ∃ kvs k b, y = .ref b ∧ H7 b = some (.tup (k.map kV)) ∧ H7 D = some (.dT kvs) ∧ kvs.length < sizeLine ∧ Nx1 (upd H7 D (.dT (putK kvs k z)))))
abbrev dObj : Obj := { cls := .type "dict", data := .dict #[] }
theorem pe_dc2 {kx vx tg iter tg1 iter1 : Expr} {scope : Scope} {own : List (Str × Nat)} {vs1 : List Nat} {pos : Pos} {wi wi1 : TI} {g g1 : TG} {tk tv : TE} (hc : X.calm = true) (hu : X.A.units + 1 < cLine) (hN : X.N.Nodup) (hi : PI X tg iter wi) (ok : BlkOk X.N X.env.scope scope own) (hv : ∀ i ∈ vs1, i ∈ own.map (·.2))
    (hg : ∀ (s : Shared) (H : Hp) (C : Addr) (cl : List (Str × Addr)) (fp : List Addr), PG (X.blk s H scope (compEnvC scope cl C X.env) fp) tg g)
    (hi1 : ∀ (s : Shared) (H : Hp) (C : Addr) (cl : List (Str × Addr)) (fp : List Addr), PI (X.blk s H scope (compEnvC scope cl C X.env) fp) tg1 iter1 wi1)
    (hg1 : ∀ (s : Shared) (H : Hp) (C : Addr) (cl : List (Str × Addr)) (fp : List Addr), PG (X.blk s H scope (compEnvC scope cl C X.env) fp) tg1 g1)
    (hk : ∀ (s : Shared) (H : Hp) (C : Addr) (cl : List (Str × Addr)) (fp : List Addr), PE (X.blk s H scope (compEnvC scope cl C X.env) fp) kx tk)
    (he : ∀ (s : Shared) (H : Hp) (C : Addr) (cl : List (Str × Addr)) (fp : List Addr), PE (X.blk s H scope (compEnvC scope cl C X.env) fp) vx tv)
    (hs : ∀ x, foldedSetIterable iter X.env x = pure x := by intro _; rfl) (hs1 : ∀ env x, foldedSetIterable iter1 env x = pure x := by intro _ _; rfl)
    (hev : eval (dcE kx vx tg iter tg1 iter1 scope pos) X.env = comprehension (dcE kx vx tg iter tg1 iter1 scope pos) scope X.env (firstIterPos [⟨tg, iter, [], 0⟩, ⟨tg1, iter1, [], 0⟩] pos) newDict false (eval iter X.env) := by rfl) :
    PE X (dcE kx vx tg iter tg1 iter1 scope pos) (tDc2 wi g wi1 g1 tk tv (own.map (·.2)) vs1) := by
  refine ⟨fun pins s σ H Q I h => ?_⟩
  rw [hev]
  have hfree : ∀ y ∈ scope.names, y.2 = .free → ∃ c, X.env.cells.lookup y.1 = some c := fun y hy e =>
    (ok.free y hy e).elim (fun k => I.ok.has _ (.inl k)) fun k => I.ok.has _ (.inr k)
  refine wpAny_comprehension_free (use := none) rfl hs (closure_ok hfree) ok.kind (fun y hy e => by rw [ok.uniq y hy, e])
    (thn (hi.run pins s σ H _ I h) fun xv s1 hx => thn hx fun itv s2 h2 => ?_)
  obtain ⟨it, fp, tn, J, H2, e, I2, T, st2, f2, q⟩ := h2
  subst e
  refine wpAny_newObj_type (newEnv_comp ?_)
  generalize hD : s2.heap.objs.size = D
  obtain ⟨W, ⟨m0, w0⟩, turn⟩ := q D (I2.hok.fresh (Nat.le_of_eq hD))
  generalize hs3 : ({ s2 with heap := s2.heap.push dObj } : Shared) = s3
  have I3 : Inv X pins σ (upd H2 D (.dT [])) s3 := by
    rw [← hs3]
    refine I2.laid (t' := s2.toks) (fun b o e => Heap.get?_push_of_some _ e) (Nat.le_of_eq hD) ?_
    rw [← hD]
    exact dt_empty s2.heap I2.big
  have h3 : s3.heap = s2.heap.push dObj := by rw [← hs3]
  have f3 : ∀ b ∈ fp, FpOk X pins (upd H2 D (.dT [])) b ∧ b < s3.heap.objs.size := fun b hb => by
    obtain ⟨o, e, _⟩ := T.obj _ _ st2 b hb
    have hlt : b < s2.heap.objs.size := Heap.lt_size e
    refine ⟨⟨?_, (f2 b hb).2⟩, by rw [h3, Heap.size_push]; exact Nat.lt_succ_of_lt hlt⟩
    rw [upd_ne (by rw [← hD]; exact Nat.ne_of_lt hlt)]
    exact (f2 b hb).1
  have st3 : tn 0 s3.heap := T.keep _ _ _ st2 fun b _ o e => by rw [h3]; exact Heap.get?_push_of_some _ e
  have I4 := block_start I3 ok hN f3
  have pg := hg s3 (upd H2 D (.dT [])) s3.heap.objs.size (cellsFrom (s3.heap.objs.size + 1) scope.names (cloFrom X.env.cells scope.names [])) fp
  have pk := hk s3 (upd H2 D (.dT [])) s3.heap.objs.size (cellsFrom (s3.heap.objs.size + 1) scope.names (cloFrom X.env.cells scope.names [])) fp
  have pe := he s3 (upd H2 D (.dT [])) s3.heap.objs.size (cellsFrom (s3.heap.objs.size + 1) scope.names (cloFrom X.env.cells scope.names [])) fp
  have pi1 := hi1 s3 (upd H2 D (.dT [])) s3.heap.objs.size (cellsFrom (s3.heap.objs.size + 1) scope.names (cloFrom X.env.cells scope.names [])) fp
  have pg1 := hg1 s3 (upd H2 D (.dT [])) s3.heap.objs.size (cellsFrom (s3.heap.objs.size + 1) scope.names (cloFrom X.env.cells scope.names [])) fp
  show codeAny _ _ (.compStart (dcE kx vx tg iter tg1 iter1 scope pos) 0 (.ref it) (.ref D) (compEnvC scope (cellsFrom (s3.heap.objs.size + 1) scope.names (cloFrom X.env.cells scope.names [])) s3.heap.objs.size X.env)) (compPost (model X.prog X.w) X.A X.xe none _ (.ref D) s3.heap.objs.size) { s3 with heap := pushCells (s3.heap.push { cls := .type "dict", data := .dict #[] }) scope.names }
  have nfp : ∀ b ∈ fp, (upd H2 D (.dT [])) b = none := fun b hb => (f3 b hb).1.1
  generalize hce : compEnvC scope (cellsFrom (s3.heap.objs.size + 1) scope.names (cloFrom X.env.cells scope.names [])) s3.heap.objs.size X.env = ce at I4 pg pk pe pi1 pg1 ⊢
  have cL : ce.locals = s3.heap.objs.size := by subst hce; rfl
  generalize hH3 : upd H2 D (.dT []) = H3 at I3 I4 pg pk pe pi1 pg1 w0 nfp f3
  generalize hs4 : ({ s3 with heap := pushCells (s3.heap.push { cls := .type "dict", data := .dict #[] }) scope.names } : Shared) = s4 at I4 ⊢
  have st4 : tn 0 s4.heap := T.keep _ _ _ st3 fun b _ o e => by rw [← hs4]; exact pushCells_keeps _ _ _ _ (Heap.get?_push_of_some _ e)
  have stat : ∀ {σ' : L2.St} {H' : Hp} {s' : Shared}, Inv (X.blk s3 H3 scope ce fp) [] σ' H' s' → (∀ b ∈ fp, H' b = none) → ∀ b ∈ fp, FpOk (X.blk s3 H3 scope ce fp) [] H' b := fun {σ' H' s'} I' hn b hb =>
    ⟨hn b hb, (I'.ok.exf b hb).1, I'.ok.exfs b hb, .inl hb, fun x c e => (I'.ok.exf b hb).2 x c e, fun p hp => absurd (show p ∈ ([] : List (Addr × Obj)) ++ [] from hp) (by simp)⟩
  have loop : codeAny (model X.prog X.w) X.A (.compLoop (dcE kx vx tg iter tg1 iter1 scope pos) 0 (.ref it) (.ref D) ce) (compPost (model X.prog X.w) X.A X.xe none (fun u s' => EP X pins σ Q u s') (.ref D) s3.heap.objs.size) s4 := by
    refine loop0 (hs1 ce) (fun n s' => ∃ i H', Inv (X.blk s3 H3 scope ce fp) [] (wipe σ (own.map (·.2))) H' s' ∧ tn i s'.heap ∧ (∀ b ∈ fp, H' b = none) ∧ W i n H') ?_ m0 ⟨0, H3, I4, st4, nfp, w0⟩
    rintro n s5 ⟨i, H5, I5, st5, n5, w5⟩
    rcases turn i n H5 w5 with ⟨stop, qq⟩ | ⟨go, Nx, hNx, step⟩
    · refine thnF (T.done (X.blk s3 H3 scope ce fp) rfl rfl rfl hc i [] s5 _ H5 (fun _ _ => False) I5 (stat I5 n5) st5 stop) fun r s6 ⟨hr, I6⟩ => ?_
      subst hr
      have I7 : Inv X pins σ H5 s6 := I3.call' (ch := fp) I6.os I6.base I6.hok I6.bare fun b hb => let z := (f3 b hb).1.2; ⟨z.2.2.1, z.1, z.2.2.2.1, z.2.2.2.2⟩
      have nC : H5 s3.heap.objs.size = none := by
        have z : H5 ce.locals = none := I6.free
        rw [cL] at z
        exact z
      obtain ⟨m, hn, _⟩ := I6.loc
      have hn : s6.heap.Ns ce.locals m := hn
      rw [cL] at hn
      obtain ⟨f0, f1, f2, f3, f4, f5⟩ := I3.fpOk (Nat.le_refl _) nC
      exact ⟨m, hn, fun h'' sb => ⟨.ref D, H5, I7.turned (t' := s6.toks) (fun b o hb e => (sb.2 b hb).trans e) f0 f1 f3 f4 f5, rfl, qq⟩⟩
    · refine thnF (T.item (X.blk s3 H3 scope ce fp) rfl rfl rfl hc i [] s5 _ H5 (fun _ _ => False) I5 (stat I5 n5) st5 go) fun r s6 ⟨u, hr, h6⟩ => ?_
      subst hr
      refine thnF h6 fun _ s7 ⟨x, H7, I7, r7, y7, st7, n7⟩ => ?_
      refine thnF (pg.run _ s7 _ H7 x u _ (I7.pinned (stat I7 n7) (T.obj _ _ st7)) r7 (step x H7 y7)) fun _ s8 ⟨σ8, H8, I8, hw8, q8⟩ => ?_
      refine thnF (pi1.run _ s8 σ8 H8 _ I8 q8) fun xv s10 hx => thnF hx fun itv s11 h11 => ?_
      obtain ⟨it1, fp1, tn1, J1, H11, e1, I11, T1, st11, f11, W1, ⟨m1, w1⟩, turn1⟩ := h11
      subst e1
      have hl8 : (wipe σ (own.map (·.2))).length = σ8.length := by rw [← hw8, wipe_length]
      have hk9 : ∀ (j : Nat) v, (wipe σ (own.map (·.2)))[j]? = some (some v) → (wipe σ8 vs1)[j]? = some (some v) := fun j v e => by
        rw [← hw8] at e
        obtain ⟨e1, e2⟩ := wipe_some e
        rw [wipe_out fun z => e2 (hv j z)]
        exact e1
      have stat1 : ∀ {H' : Hp}, (∀ b ∈ fp1, H' b = none) → ∀ b ∈ fp1, FpOk (X.blk s3 H3 scope ce fp) ([] ++ pinsAt fp s7.heap) H' b := fun hn b hb => ⟨hn b hb, (f11 b hb).2⟩
      have lp1 : codeAny (model X.prog X.w) X.A (.compLoop (dcE kx vx tg iter tg1 iter1 scope pos) 1 (.ref it1) (.ref D) ce)
          (fun r s' => match r with
            | .ok _ => ∃ m, m < n ∧ ∃ i H', Inv (X.blk s3 H3 scope ce fp) [] (wipe σ (own.map (·.2))) H' s' ∧ tn i s'.heap ∧ (∀ b ∈ fp, H' b = none) ∧ W i m H'
            | .error _ => False) s11 := by
        refine loop1 (fun k s' => ∃ j H', Inv (X.blk s3 H3 scope ce fp) ([] ++ pinsAt fp s7.heap) (wipe σ8 vs1) H' s' ∧ tn1 j s'.heap ∧ (∀ b ∈ fp1, H' b = none) ∧ W1 j k H') ?_ m1 ⟨0, H11, I11.weak (wipe_length _ _) (fun j v e => (wipe_some e).1), st11, fun b hb => (f11 b hb).1, w1⟩
        rintro k s12 ⟨j, H12, I12, st12, n12, w12⟩
        rcases turn1 j k H12 w12 with ⟨stop1, nx1⟩ | ⟨go1, Nx1, hNx1, step1⟩
        · refine thnF (T1.done (X.blk s3 H3 scope ce fp) rfl rfl rfl hc j _ s12 (wipe σ8 vs1) H12 (fun _ _ => False) I12 (stat1 n12) st12 stop1) fun r s13 ⟨hr, I13⟩ => ?_
          subst hr
          obtain ⟨m', hm, w'⟩ := hNx H12 nx1
          have pin' : ∀ b ∈ fp, ∀ o, s7.heap.get? b = some o → s13.heap.get? b = some o ∧ H12 b = none := fun b hb o e =>
            let z := I13.pin (b, o) (List.mem_append_right _ (List.mem_append_right _ (mem_pinsAt hb e)))
            ⟨z.1, z.2.1⟩
          refine ⟨m', hm, i + 1, H12, (I13.unpinned (pins := [])).weak (hl8.trans (wipe_length σ8 vs1).symm) hk9, T.keep _ _ _ st7 fun b hb o e => (pin' b hb o e).1, fun b hb => ?_, w'⟩
          obtain ⟨o, e, _⟩ := T.obj _ _ st7 b hb
          exact (pin' b hb o e).2
        · refine thnF (T1.item (X.blk s3 H3 scope ce fp) rfl rfl rfl hc j _ s12 (wipe σ8 vs1) H12 (fun _ _ => False) I12 (stat1 n12) st12 go1) fun r s13 ⟨u1, hr, h13⟩ => ?_
          subst hr
          refine thnF h13 fun _ s14 ⟨x1, H14, I14, r14, y14, st14, n14⟩ => ?_
          refine thnF (pg1.run _ s14 (wipe σ8 vs1) H14 x1 u1 _ (I14.pinned (stat1 n14) (T1.obj _ _ st14)) r14 (step1 x1 H14 y14)) fun _ s15 ⟨σ15, H15, I15, hw15, q15⟩ => ?_
          refine thnF (pk.run _ s15 σ15 H15 _ I15 q15) fun kv s16 ⟨ky, H16, I16, r16, q16⟩ => ?_
          refine thnF (pe.run _ s16 σ15 H16 _ I16 q16) fun z s17 ⟨yv, H17, I17, r17, kvs, kk, bb, ey, eb, hD17, hz17, nx⟩ => ?_
          subst ey
          obtain rfl : kv = Value.ref bb := r16
          refine setT_ok (X := X.blk s3 H3 scope ce fp) hu I17 hD17 eb hz17 r17 fun s18 I' => ?_
          obtain ⟨m', hm, w'⟩ := hNx1 _ nx
          have pin' : ∀ b ∈ fp1, ∀ o, s14.heap.get? b = some o → s18.heap.get? b = some o ∧ (upd H17 D (.dT (putK kvs kk yv))) b = none := fun b hb o e =>
            let z := I'.pin (b, o) (List.mem_append_right _ (List.mem_append_right _ (mem_pinsAt hb e)))
            ⟨z.1, z.2.1⟩
          refine ⟨m', hm, j + 1, _, I'.unpinned.weak (by rw [← hw15, wipe_length]) (fun j v e => by rw [← hw15] at e; exact (wipe_some e).1), T1.keep _ _ _ st14 fun b hb o e => (pin' b hb o e).1, fun b hb => ?_, w'⟩
          obtain ⟨o, e, _⟩ := T1.obj _ _ st14 b hb
          exact (pin' b hb o e).2
      exact start1 lp1 (T1.self X.A 0 _ _ _ st11 lp1)
  exact codeAny_compStart_dict loop (T.self X.A 0 _ _ _ st4 loop)
end
end Dc2

set_option Elab.async false
set_option linter.all false
set_option maxRecDepth 100000
set_option maxHeartbeats 2000000
/-! repr of lists of lists of small numbers. -/
namespace RpX
open PySem PySem.Spec PyProof.Rows L2
section
variable {X : Cx}
/-- repr(x) of data -/
def rRepr (K : PySem.W.Frag) : List V → Hp → VK → Prop := fun vs H Q => ∃ (a : Addr) (d : PyData), vs = [.ref a] ∧ Dp K H (.ref a) d ∧ d.showable = true ∧ d.hasDict = false ∧ d.depth ≤ 8 ∧ d.shown.length ≤ sizeLine ∧ Q (.str d.shown) H
theorem cr_repr (hg : X.A.guards = some []) (hu : X.A.units + 9 < cLine) : CallR X (.builtin "repr") (rRepr X.K) := by
  intro pins s σ H vs us Q I r h
  obtain ⟨a, d, rfl, hd, hs, hn, hdp, hz, q⟩ := h
  rw [Vals.ref1 r]
  obtain ⟨as, hr⟩ := Dp.reads I d (.ref a) (.ref a) hd rfl
  exact repr_of_reads' hr hs (PyData.noDict_hsm hn) hg (by omega) (fun _ _ e => e) (fun h' u tk hk => ⟨.str d.shown, H, I.kept hk, ⟨u, rfl⟩, q⟩) hz
end
abbrev nums (l : List Nat) : List PyData := l.map fun n : Nat => PyData.int (n : Int)
/-- numbers as values -/
abbrev vn (l : List Nat) : List V := l.map fun n : Nat => V.int (n : Int)
def dat (ls : List (List Nat)) (ys : List Nat) : PyData := .tuple [.list (ls.map fun c => .list (nums c)), .list (nums ys)]
theorem nums_ok : ∀ l : List Nat, (∀ n ∈ l, n < 100) → PyData.showableAll (nums l) = true ∧ PyData.hasDictAll (nums l) = false ∧ PyData.depthAll (nums l) = 0 ∧ PyData.leavesShortAll 8 (nums l) = true ∧ PyData.bulkAll (nums l) = l.length
  | [], _ => ⟨rfl, rfl, rfl, rfl, rfl⟩
  | n :: l, h => by
    obtain ⟨h1, h2, h3, h4, h5⟩ := nums_ok l fun m hm => h m (List.mem_cons_of_mem _ hm)
    have hn : n < 100 := h n List.mem_cons_self
    have k1 : ∀ n : Fin 100, PyData.showable (.int (n.val : Int)) = true ∧ PyData.leavesShort 8 (.int (n.val : Int)) = true := by decide +kernel
    obtain ⟨a1, a2⟩ := k1 ⟨n, hn⟩
    refine ⟨?_, ?_, ?_, ?_, ?_⟩
    · show (PyData.showable (.int (n : Int)) && PyData.showableAll (nums l)) = true
      rw [h1, Bool.and_true]
      exact a1
    · show (PyData.hasDict (.int (n : Int)) || PyData.hasDictAll (nums l)) = false
      rw [h2]
      rfl
    · show max (PyData.depth (.int (n : Int))) (PyData.depthAll (nums l)) = 0
      rw [h3]
      rfl
    · show (PyData.leavesShort 8 (.int (n : Int)) && PyData.leavesShortAll 8 (nums l)) = true
      rw [h4, Bool.and_true]
      exact a2
    · show PyData.bulk (.int (n : Int)) + 1 + PyData.bulkAll (nums l) = l.length + 1
      rw [h5]
      show 0 + 1 + l.length = _
      omega
theorem rows_ok : ∀ ls : List (List Nat), (∀ l ∈ ls, ∀ n ∈ l, n < 100) → let ds := ls.map fun c => PyData.list (nums c); PyData.showableAll ds = true ∧ PyData.hasDictAll ds = false ∧ PyData.depthAll ds ≤ 1 ∧ PyData.leavesShortAll 8 ds = true ∧ PyData.bulkAll ds = ls.flatten.length + ls.length
  | [], _ => ⟨rfl, rfl, Nat.zero_le _, rfl, rfl⟩
  | l :: ls, h => by
    obtain ⟨h1, h2, h3, h4, h5⟩ := rows_ok ls fun m hm => h m (List.mem_cons_of_mem _ hm)
    obtain ⟨a1, a2, a3, a4, a5⟩ := nums_ok l (h l List.mem_cons_self)
    refine ⟨?_, ?_, ?_, ?_, ?_⟩
    · show (PyData.showableAll (nums l) && PyData.showableAll _) = true
      rw [h1, a1]
      rfl
    · show (PyData.hasDictAll (nums l) || PyData.hasDictAll _) = false
      rw [h2, a2]
      rfl
    · show max (PyData.depthAll (nums l) + 1) (PyData.depthAll _) ≤ 1
      rw [a3]
      exact Nat.max_le.mpr ⟨Nat.le_refl _, h3⟩
    · show (PyData.leavesShortAll 8 (nums l) && PyData.leavesShortAll 8 _) = true
      rw [h4, a4]
      rfl
    · show PyData.bulkAll (nums l) + 1 + PyData.bulkAll _ = _
      rw [h5, a5, List.flatten_cons, List.length_append, List.length_cons]
      omega
theorem dat_ok (ls : List (List Nat)) (ys : List Nat) (h1 : ∀ l ∈ ls, ∀ n ∈ l, n < 100) (h2 : ∀ n ∈ ys, n < 100) (z1 : ls.flatten.length ≤ 1000) (z2 : ls.length ≤ 1000) (z3 : ys.length ≤ 1000) :
    (dat ls ys).showable = true ∧ (dat ls ys).hasDict = false ∧ (dat ls ys).depth ≤ 8 ∧ (dat ls ys).shown.length ≤ sizeLine := by
  obtain ⟨a1, a2, a3, a4, a5⟩ := rows_ok ls h1
  obtain ⟨b1, b2, b3, b4, b5⟩ := nums_ok ys h2
  refine ⟨?_, ?_, ?_, ?_⟩
  · show (PyData.showableAll _ && (PyData.showableAll (nums ys) && true)) = true
    rw [a1, b1]
    rfl
  · show (PyData.hasDictAll _ || (PyData.hasDictAll (nums ys) || false)) = false
    rw [a2, b2]
    rfl
  · show max (PyData.depthAll _ + 1) (max (PyData.depthAll (nums ys) + 1) 0) + 1 ≤ 8
    rw [b3]
    omega
  · have hl : PyData.leavesShort 8 (dat ls ys) = true := by
      show (PyData.leavesShortAll 8 _ && (PyData.leavesShortAll 8 (nums ys) && true)) = true
      rw [a4, b4]
      rfl
    have hb : PyData.bulk (dat ls ys) = (ls.flatten.length + ls.length) + 1 + (ys.length + 1 + 0) := by
      show PyData.bulkAll _ + 1 + (PyData.bulkAll (nums ys) + 1 + 0) = _
      rw [a5, b5]
    have h := PyData.shown_le_bulk 8 (Nat.le_refl _) (dat ls ys) hl
    rw [hb] at h
    rw [sizeLine_eq]
    omega
theorem dp_nums {K : PySem.W.Frag} {H : Hp} : ∀ l : List Nat, DpAll K H (vn l) (nums l)
  | [] => .nil
  | n :: l => .cons (.int n) (dp_nums l)
end RpX

set_option Elab.async false
set_option linter.all false
set_option maxRecDepth 100000
set_option maxHeartbeats 2000000
/-! Calls whose class is known by the reading alone; loops over any walked thing. -/
namespace VrX
open PySem PySem.Spec PyProof.Rows L2
section
variable {X : Cx} {m : Str} {o e fe : Expr} {es : List Expr} {ta tf : TE} {t : TA} {apos pos : Pos} {n : Nat}
/-- o.m(..): the class at C that o is of, its method and the method's promise are found in the reading -/
def tMethV (X : Cx) (n : Nat) (m : Str) (ta : TE) (t : TA) : TE := fun σ H Q => ta σ H fun x H1 => ∃ (a dx C f : Addr) (fs : List (Str × V)) (fd : FuncData) (ps : List Str) (sp : Sp) (k : Nat), x = .ref a ∧ H1 a = some (.ins C dx fs) ∧ fs.lookup m = none ∧ Cls X.K C ∧ Meth X.K C m f ∧
  FnOk X.prog X.w X.K X.mg X.base CX0 k f fd ps sp ∧ k ≤ n ∧ Binds X.K fd ps [] ∧ t σ H1 fun vs H2 => sp (x :: vs) H2 Q E0
theorem pe_methV {pl : Sem Bool} (he : PE X o ta) (hr : Room n X.A) (ha : PA X (e :: es) t)
    (hst : starEach (e :: es) X.env = (false, eval e X.env) :: starEach es X.env := by rfl) (hpl : (backTo pos (starEach es X.env)).any (·.1) = false := by rfl)
    (ht : eval (.Call (.Attribute o m apos) (e :: es) [] pos) X.env = (do
      let ov ← eval o X.env
      standAt apos.atName
      let (f, first) ← holding [ov] (getMethod ov m pl)
      callWith pos f first (backTo pos (starEach (e :: es) X.env)) (backToKw pos (keywordEach [] X.env))) := by rfl) :
    PE X (.Call (.Attribute o m apos) (e :: es) [] pos) (tMethV X n m ta t) := by
  refine ⟨fun pins s σ H Q I h => ?_⟩
  refine PySem.W.methodCall_KW (pl := pl) (thn (he.run pins s σ H _ I h) fun u s1 ⟨x, H1, I1, rx, a, dx, C, f, fs, fd, ps, sp, k, ex, ea, l, c, hm, F, hk, hb, q⟩ => ?_) ht
  subst ex
  obtain rfl : u = Value.ref a := rx
  refine getmeth_ok I1 ea c hm l ?_
  refine PySem.W.callWith_K (first := [.ref a]) (h₀ := X.base) I.ok.mod.kin hm.kp (thn (ha.run pos pins s1 σ H1 _ I1 q) fun us s2 ⟨vs, H2, I2, r, q2⟩ => ⟨I2.kIn, ?_⟩) hst hpl
  exact run_fn (us := .ref a :: us) (vs := .ref a :: vs) (dvs := []) F (hr.mono hk) hb .nil pass0 I2 (.cons rfl r) (by rw [List.append_nil]; exact q2)
theorem pe_methV0 {pl : Sem Bool} (he : PE X o ta) (hr : Room n X.A)
    (ht : eval (.Call (.Attribute o m apos) [] [] pos) X.env = (do
      let ov ← eval o X.env
      standAt apos.atName
      let (f, first) ← holding [ov] (getMethod ov m pl)
      callWith pos f first (backTo pos (starEach [] X.env)) (backToKw pos (keywordEach [] X.env))) := by rfl) :
    PE X (.Call (.Attribute o m apos) [] [] pos) (tMethV X n m ta tNil) := by
  refine ⟨fun pins s σ H Q I h => ?_⟩
  refine PySem.W.methodCall_KW (pl := pl) (thn (he.run pins s σ H _ I h) fun u s1 ⟨x, H1, I1, rx, a, dx, C, f, fs, fd, ps, sp, k, ex, ea, l, c, hm, F, hk, hb, q⟩ => ?_) ht
  subst ex
  obtain rfl : u = Value.ref a := rx
  refine getmeth_ok I1 ea c hm l ?_
  exact PySem.W.callWith_K0 (first := [.ref a]) I1.kIn hm.kp (run_fn (us := [.ref a]) (vs := [.ref a]) (dvs := []) F (hr.mono hk) hb .nil pass0 I1 (.cons rfl .nil) q)
/-- f(e, ..), f an instance: its class and its __call__ found in the reading -/
def tCallV (X : Cx) (n : Nat) (tf : TE) (t : TA) : TE := fun σ H Q => tf σ H fun y H1 => ∃ a, y = V.ref a ∧ t σ H1 fun vs H2 => ∃ (C dx g : Addr) (fs : List (Str × V)) (fd : FuncData) (ps : List Str) (sp : Sp) (k : Nat), H2 a = some (.ins C dx fs) ∧ StX.CallO X.K C g ∧
  FnOk X.prog X.w X.K X.mg X.base CX0 k g fd ps sp ∧ k ≤ n ∧ Binds X.K fd ps [] ∧ sp (V.ref a :: vs) H2 Q E0
theorem pe_callV (hf : PE X fe tf) (hr : Room n X.A) (ha : PA X (e :: es) t)
    (ht : eval (.Call fe (e :: es) [] pos) X.env = (do callWith pos (← eval fe X.env) [] (backTo pos (starEach (e :: es) X.env)) (backToKw pos (keywordEach [] X.env))) := by rfl)
    (he : starEach (e :: es) X.env = (false, eval e X.env) :: starEach es X.env := by rfl) (hpl : (backTo pos (starEach es X.env)).any (·.1) = false := by rfl) : PE X (.Call fe (e :: es) [] pos) (tCallV X n tf t) := by
  refine ⟨fun pins s σ H Q I h => ?_⟩
  refine Call_ (thn (hf.run pins s σ H _ I h) fun u s1 ⟨y, H1, I1, ry, a, ey, q⟩ => ?_) ht
  subst ey
  obtain rfl : u = Value.ref a := ry
  refine StX.callO_with (thn (ha.run pos pins s1 σ H1 _ I1 q) fun us s2 ⟨vs, H2, I2, r, C, dx, g, fs, fd, ps, sp, k, ea, c, F, hk, hb, q2⟩ => ?_) he hpl
  obtain ⟨ox, od, J, hd⟩ := StX.insC_at I2 (.inr ⟨dx, fs, ea⟩ : StX.InsC X H2 a C)
  refine ⟨⟨C, ox, od, J, hd⟩, ?_⟩
  have hl := F.len _ _ _ _ q2
  have r2 : Vals (V.ref a :: vs) (Value.ref a :: us) := .cons rfl r
  have hlu : (Value.ref a :: us).length = ps.length := by rw [← r2.length]; exact hl
  have hbb := hb s2 (Value.ref a :: us) I2.kIn (by rw [List.append_nil]; exact hlu)
  rw [List.append_nil] at hbb
  refine wpAny_call (PySem.W.kco_code I2.kIn J hd c.at_ c.fn c.fi (codeAny_mono (F.run X.A X.stack s2 H2 ⟨Value.ref a :: us, []⟩ (Value.ref a :: us) (V.ref a :: vs) Q E0 (hr.mono hk) I2.env0 hbb r2 q2) fun r s' hq => ?_))
  cases r with
  | error e => exact pass0 pins σ H2 s2 e s' I2 hq
  | ok fl =>
    cases fl with
    | ret u => exact I2.after hq
    | next => exact False.elim hq
    | brk => exact False.elim hq
    | cont => exact False.elim hq
/-- the same with no context in the reading (for comprehensions) -/
def tCallW (P : Program) (w : World) (K : PySem.W.Frag) (mg : Str → Option Value) (base : Heap) (n : Nat) (tf : TE) (t : TA) : TE := fun σ H Q => tf σ H fun y H1 => ∃ a, y = V.ref a ∧ t σ H1 fun vs H2 => ∃ (C dx g : Addr) (fs : List (Str × V)) (fd : FuncData) (ps : List Str) (sp : Sp) (k : Nat), H2 a = some (.ins C dx fs) ∧ StX.CallO K C g ∧
  FnOk P w K mg base CX0 k g fd ps sp ∧ k ≤ n ∧ Binds K fd ps [] ∧ sp (V.ref a :: vs) H2 Q E0
theorem pe_callW {P : Program} {w : World} {K : PySem.W.Frag} {mg : Str → Option Value} {base : Heap} (hf : PE X fe tf) (hr : Room n X.A) (ha : PA X (e :: es) t) (h1 : X.prog = P := by rfl) (h2 : X.w = w := by rfl) (h3 : X.K = K := by rfl) (h4 : X.mg = mg := by rfl) (h5 : X.base = base := by rfl)
    (ht : eval (.Call fe (e :: es) [] pos) X.env = (do callWith pos (← eval fe X.env) [] (backTo pos (starEach (e :: es) X.env)) (backToKw pos (keywordEach [] X.env))) := by rfl)
    (he : starEach (e :: es) X.env = (false, eval e X.env) :: starEach es X.env := by rfl) (hpl : (backTo pos (starEach es X.env)).any (·.1) = false := by rfl) : PE X (.Call fe (e :: es) [] pos) (tCallW P w K mg base n tf t) := by
  subst h1 h2 h3 h4 h5
  exact pe_callV hf hr ha ht he hpl
end
/-- a statement that lets nothing out, in a def that says super() -/
theorem PS.nox' {X : Cx} {st : Stmt} {t : TS} (h : PS X.nox st t) : PS X st t := ⟨fun pins s σ H D I hw =>
  wpAny_mono (h.run pins s σ H D (I.wish _) hw) (fun _ _ q => q.unwish) fun _ _ z => False.elim z⟩
theorem psa_nx {X : Cx} {c : Code} {st : Stmt} {t : TS} (h : PS X.nox st t) : SuX.PSA X c st t := SuX.psa_of (PS.nox' h)
/-! ### loops over any walked thing, n items -/
theorem for_J {J : It} {n : Nat} {g : TG} {tb : TS} {D : Ends} {σ : L2.St} {H : Hp} (Pv : Nat → L2.St → Hp → Prop) (h0 : Pv 0 σ H) (stop : ∀ σ H, Pv n σ H → J.stop n H) (go : ∀ i σ H, i < n → Pv i σ H → J.go i H)
    (hs : ∀ i x σ H H', i < n → Pv i σ H → J.yld i H x H' → g x σ H' fun σ2 H2 => tb { D with nx := Pv (i + 1), ct := Pv (i + 1), bk := D.nx } σ2 H2) (hd : ∀ σ H, Pv n σ H → D.nx σ H) :
    ∃ W : Nat → Nat → L2.St → Hp → Prop, (∃ m, W 0 m σ H) ∧ ∀ i m σ H, W i m σ H →
      (J.stop i H ∧ D.nx σ H) ∨ (J.go i H ∧ ∃ N : L2.St → Hp → Prop, (∀ σ' H', N σ' H' → ∃ m', m' < m ∧ W (i + 1) m' σ' H') ∧ ∀ v H', J.yld i H v H' → g v σ H' fun σ2 H2 => tb { D with nx := N, ct := N, bk := D.nx } σ2 H2) := by
  refine ⟨fun i m σ H => m = n - i ∧ i ≤ n ∧ Pv i σ H, ⟨n, by simp, Nat.zero_le _, h0⟩, ?_⟩
  rintro i m σ H ⟨rfl, hi, p⟩
  by_cases hlt : i < n
  · exact .inr ⟨go i σ H hlt p, Pv (i + 1), fun σ' H' p' => ⟨n - (i + 1), by omega, rfl, hlt, p'⟩, fun x H' y => hs i x σ H H' hlt p y⟩
  · have e : i = n := by omega
    subst e
    exact .inl ⟨stop σ H p, hd σ H p⟩
theorem lc_J {J : It} {n : Nat} {g : TG} {tt : TT} {te : TE} {vs : List Nat} {σ : L2.St} {H1 : Hp} {D : Addr} {Qd : Hp → Prop} (Pv : Nat → Hp → Prop) (h0 : Pv 0 (upd H1 D (.lst []))) (stop : ∀ H, Pv n H → J.stop n H) (go : ∀ i H, i < n → Pv i H → J.go i H)
    (hs : ∀ i x H H', i < n → Pv i H → J.yld i H x H' → g x (wipe σ vs) H' fun σ2 H2 => wipe σ2 vs = wipe σ vs ∧ tt σ2 H2 fun b H3 =>
      if b = true then te σ2 H3 fun y H4 => ∃ acc, H4 D = some (.lst acc) ∧ acc.length < sizeLine ∧ Pv (i + 1) (upd H4 D (.lst (acc ++ [y]))) else Pv (i + 1) H3) (hd : ∀ H, Pv n H → Qd H) :
    ∃ W : Nat → Nat → Hp → Prop, (∃ m, W 0 m (upd H1 D (.lst []))) ∧ ∀ i m H, W i m H →
      (J.stop i H ∧ Qd H) ∨ (J.go i H ∧ ∃ Nx : Hp → Prop, (∀ H', Nx H' → ∃ m', m' < m ∧ W (i + 1) m' H') ∧ ∀ x H', J.yld i H x H' → g x (wipe σ vs) H' fun σ2 H2 => wipe σ2 vs = wipe σ vs ∧ tt σ2 H2 fun b H3 =>
        if b = true then te σ2 H3 fun y H4 => ∃ acc, H4 D = some (.lst acc) ∧ acc.length < sizeLine ∧ Nx (upd H4 D (.lst (acc ++ [y]))) else Nx H3) := by
  refine ⟨fun i m H => m = n - i ∧ i ≤ n ∧ Pv i H, ⟨n, by simp, Nat.zero_le _, h0⟩, ?_⟩
  rintro i m H ⟨rfl, hi, p⟩
  by_cases hlt : i < n
  · exact .inr ⟨go i H hlt p, Pv (i + 1), fun H' p' => ⟨n - (i + 1), by omega, rfl, hlt, p'⟩, fun x H' y => hs i x H H' hlt p y⟩
  · have e : i = n := by omega
    subst e
    exact .inl ⟨stop H p, hd H p⟩
/-- a dict comprehension's inner walk -/
theorem in_J {J : It} {n : Nat} {H0 : Hp} {Nx : Hp → Prop} {B : V → Hp → (Hp → Prop) → Prop} (Pv : Nat → Hp → Prop) (h0 : Pv 0 H0) (stop : ∀ H, Pv n H → J.stop n H) (go : ∀ i H, i < n → Pv i H → J.go i H)
    (hs : ∀ i x H H', i < n → Pv i H → J.yld i H x H' → B x H' (Pv (i + 1))) (hd : ∀ H, Pv n H → Nx H) :
    ∃ W : Nat → Nat → Hp → Prop, (∃ m, W 0 m H0) ∧ ∀ i m H, W i m H →
      (J.stop i H ∧ Nx H) ∨ (J.go i H ∧ ∃ N : Hp → Prop, (∀ H', N H' → ∃ m', m' < m ∧ W (i + 1) m' H') ∧ ∀ x H', J.yld i H x H' → B x H' N) := by
  refine ⟨fun i m H => m = n - i ∧ i ≤ n ∧ Pv i H, ⟨n, by simp, Nat.zero_le _, h0⟩, ?_⟩
  rintro i m H ⟨rfl, hi, p⟩
  by_cases hlt : i < n
  · exact .inr ⟨go i H hlt p, Pv (i + 1), fun H' p' => ⟨n - (i + 1), by omega, rfl, hlt, p'⟩, fun x H' y => hs i x H H' hlt p y⟩
  · have e : i = n := by omega
    subst e
    exact .inl ⟨stop H p, hd H p⟩
end VrX

set_option Elab.async false
set_option linter.all false
set_option maxRecDepth 100000
set_option maxHeartbeats 2000000
/-! Rules whose readings name K itself (for use within comprehensions). -/
namespace Kw
open PySem PySem.Spec PyProof.Rows L2
section
variable (K : PySem.W.Frag) {X : Cx}
theorem ixL (h : X.K = K := by rfl) : IxR X (rIxL K) := by subst h; exact ix_list
theorem ixT (h : X.K = K := by rfl) : IxR X (rIxT K) := by subst h; exact ix_tup
def rLen (K : PySem.W.Frag) : List V → Hp → VK → Prop := fun xs H Q => ∃ p ys, xs = [.ref p] ∧ (SqL K H p ys ∨ SqT K H p ys) ∧ Q (.int ys.length) H
theorem len (h : X.K = K := by rfl) : CallR X (.builtin "len") (rLen K) := by subst h; exact call_len_seq
theorem inS (h : X.K = K := by rfl) : OpR X (compareOp .In) (rIn K false) := by subst h; exact op_in_seq
theorem ninS (h : X.K = K := by rfl) : OpR X (compareOp .NotIn) (rIn K true) := by subst h; exact op_notIn_seq
theorem slL (h : X.K = K := by rfl) : SlR X (rSlL K) := by subst h; exact sl_list
theorem slA (h : X.K = K := by rfl) : SlR X (rSlA K) := by subst h; exact sl_tupA
theorem sum (hc : X.calm = true) (h : X.K = K := by rfl) : CallR X (.builtin "sum") (rSum K) := by subst h; exact cr_sum hc
theorem max (hc : X.calm = true) (h : X.K = K := by rfl) : CallR X (.builtin "max") (rMax K) := by subst h; exact cr_max hc
theorem all (hc : X.calm = true) (h : X.K = K := by rfl) : CallR X (.builtin "all") (rAll K) := by subst h; exact cr_all hc
theorem isi (h : X.K = K := by rfl) : CallR X (.builtin "isinstance") (rIsi K) := by subst h; exact call_isi
theorem isiT (h : X.K = K := by rfl) : CallR X (.builtin "isinstance") (rIsiT K) := by subst h; exact call_isiT
def rLst (K : PySem.W.Frag) : List V → Hp → VK → Prop := fun xs H Q => ∃ p ys, xs = [.ref p] ∧ (SqL K H p ys ∨ SqT K H p ys) ∧ ∀ l, H l = none → Q (.ref l) (upd H l (.lst ys))
theorem lst (h : X.K = K := by rfl) : CallR X (.type "list") (rLst K) := by subst h; exact call_list_of
def tTru (K : PySem.W.Frag) (ta : TE) : TT := fun σ H Q => ta σ H fun x H' => ∃ k, TruV K x H' k ∧ Q k H'
def tJoin (K : PySem.W.Frag) (to te : TE) : TE := tM1 (fun x xs H Q => ∃ a p, ∃ ys : List Str, x = .str a ∧ xs = [.ref p] ∧ (SqL K H p (ys.map V.str) ∨ SqT K H p (ys.map V.str)) ∧ (ys.map (·.length)).sum + ys.length * a.length ≤ 16777216 ∧ Q (.str (Txt.join a ys)) H) to te
/-- sum of a tuple of numbers -/
def rSumT (K : PySem.W.Frag) : List V → Hp → VK → Prop := fun vs H Q => ∃ (a : Addr) (ns : List Int), vs = [V.ref a] ∧ SqT K H a (ns.map V.int) ∧ Q (.int ns.sum) H
theorem sumT (hc : X.calm = true) (h : X.K = K := by rfl) : CallR X (.builtin "sum") (rSumT K) := by
  subst h
  intro pins s σ H vs us Q I r h
  obtain ⟨a, ns, rfl, hs, q⟩ := h
  obtain ⟨its, rv, hT, _⟩ := I.tuple hs
  rw [Vals.ref1 r]
  have hi : IntsAre its ns := rv.ints
  obtain ⟨xs, e⟩ := hi.allInts.items
  have hn : numsOf (intItems xs).toList = ns := by rw [← e]; exact hi.numsOf
  rw [nums_intItems] at hn
  have hT : s.heap.IsTuple a (intItems xs) := by rw [← e]; exact hT
  have hlt : a < s.heap.objs.size := hT.elim fun o z => Heap.lt_size z.1
  have hT2 : (s.heap.push { cls := .type "tuple_iterator", data := .fields #[.none, .bool false] }).IsTuple a (intItems xs) := hT.push _
  refine call_sum_walkG (wpAny_pyIter_tuple hT ?_)
  refine ⟨_, [_, a], [_], _, _, _, numAt xs, rfl, Walks.tuple (A := X.A.in1) (I.ok.hd hc) _ a (Nat.ne_of_lt hlt) (intItems xs), ⟨⟨_, Heap.get?_push_size _ rfl, rfl, rfl⟩, hT.push _⟩, fun c hc => ?_, (fun _ _ => intItems_at), fun h' tk t' hk => ?_⟩
  · show c < (s.heap.push _).objs.size
    rw [Heap.size_push]
    rcases List.mem_cons.mp hc with rfl | hc
    · exact Nat.lt_succ_self _
    · rcases List.mem_cons.mp hc with rfl | hc
      · exact Nat.lt_succ_of_lt hlt
      · cases hc
  · have hz : (intItems xs).size = xs.size := by simp [intItems]
    rw [hz, preSum_eq, List.take_of_length_le (by simp), hn]
    refine ⟨.int _, H, I.kept fun c o e => hk c o (fun hm => ?_) (Heap.get?_push_of_some _ e), ⟨_, rfl⟩, q⟩
    rcases List.mem_cons.mp hm with e1 | hm
    · have := Heap.lt_size e
      rw [e1] at this
      exact Nat.lt_irrefl _ this
    · cases hm
end
end Kw

set_option Elab.async false
set_option linter.all false
set_option maxRecDepth 100000
set_option maxHeartbeats 2000000
/-! A dict comprehension with two clauses, stored to a name. -/
namespace Dc2
open PySem PySem.Spec PyProof.Rows L2
theorem dsw_true {kx vx : Expr} {gs : List Comprehension} {scope : Scope} {pos py : Pos} {y : Str} {l : Nat} {env : Env} (hk : env.scope.kind = .function) (hy : env.scope.names.lookup y = some .local) (hl : (py.line == pos.line) = true)
    (ha : (scope.names.any fun (n, k) => n == y && (k == .local || k == .cell)) = false) : swapsWith (.DictComp kx vx gs scope pos) (some (.Name y py)) l env = pure true := by
  have ky : env.kindOf y = some .local := hy
  have hb : env.blockKind = .function := by unfold Env.blockKind; rw [hk]; rfl
  unfold swapsWith
  simp only [hb, ky, ha, Expr.pos, hl]
  rfl
section
variable {X : Cx}
theorem dc2_core {pins : List (Addr × Obj)} {s : Shared} {σ : L2.St} {H : Hp} {Q : VK} {use : Option (Value → Sem Unit)} {Qf : Value → Shared → Prop} {pos' : Pos} {kx vx tg iter tg1 iter1 : Expr} {scope : Scope} {own : List (Str × Nat)} {vs1 : List Nat} {pos : Pos} {wi wi1 : TI} {g g1 : TG} {tk tv : TE} (hc : X.calm = true) (hu : X.A.units + 1 < cLine) (hN : X.N.Nodup) (I : Inv X pins σ H s) (hi : PI X tg iter wi) (ok : BlkOk X.N X.env.scope scope own) (hv : ∀ i ∈ vs1, i ∈ own.map (·.2))
    (hg : ∀ (s : Shared) (H : Hp) (C : Addr) (cl : List (Str × Addr)) (fp : List Addr), PG (X.blk s H scope (compEnvC scope cl C X.env) fp) tg g)
    (hi1 : ∀ (s : Shared) (H : Hp) (C : Addr) (cl : List (Str × Addr)) (fp : List Addr), PI (X.blk s H scope (compEnvC scope cl C X.env) fp) tg1 iter1 wi1)
    (hg1 : ∀ (s : Shared) (H : Hp) (C : Addr) (cl : List (Str × Addr)) (fp : List Addr), PG (X.blk s H scope (compEnvC scope cl C X.env) fp) tg1 g1)
    (hk : ∀ (s : Shared) (H : Hp) (C : Addr) (cl : List (Str × Addr)) (fp : List Addr), PE (X.blk s H scope (compEnvC scope cl C X.env) fp) kx tk)
    (he : ∀ (s : Shared) (H : Hp) (C : Addr) (cl : List (Str × Addr)) (fp : List Addr), PE (X.blk s H scope (compEnvC scope cl C X.env) fp) vx tv)
    (hs : ∀ x, foldedSetIterable iter X.env x = pure x) (hs1 : ∀ env x, foldedSetIterable iter1 env x = pure x)
    (h : tDc2 wi g wi1 g1 tk tv (own.map (·.2)) vs1 σ H Q)
    (hRR : ∀ D C s' m H', Inv X pins σ H' s' → Q (.ref D) H' → s'.heap.Ns C m → FpOk X pins H' C → compPost (model X.prog X.w) X.A X.xe use Qf (.ref D) C (.ok .next) s') :
    wpAny (model X.prog X.w) X.A (comprehension (dcE kx vx tg iter tg1 iter1 scope pos) scope X.env pos' newDict false (eval iter X.env) use) Qf X.xe s := by
  have hfree : ∀ y ∈ scope.names, y.2 = .free → ∃ c, X.env.cells.lookup y.1 = some c := fun y hy e =>
    (ok.free y hy e).elim (fun k => I.ok.has _ (.inl k)) fun k => I.ok.has _ (.inr k)
  refine wpAny_comprehension_free (use := use) rfl hs (closure_ok hfree) ok.kind (fun y hy e => by rw [ok.uniq y hy, e])
    (thn (hi.run pins s σ H _ I h) fun xv s1 hx => thn hx fun itv s2 h2 => ?_)
  obtain ⟨it, fp, tn, J, H2, e, I2, T, st2, f2, q⟩ := h2
  subst e
  refine wpAny_newObj_type (newEnv_comp ?_)
  generalize hD : s2.heap.objs.size = D
  obtain ⟨W, ⟨m0, w0⟩, turn⟩ := q D (I2.hok.fresh (Nat.le_of_eq hD))
  generalize hs3 : ({ s2 with heap := s2.heap.push dObj } : Shared) = s3
  have I3 : Inv X pins σ (upd H2 D (.dT [])) s3 := by
    rw [← hs3]
    refine I2.laid (t' := s2.toks) (fun b o e => Heap.get?_push_of_some _ e) (Nat.le_of_eq hD) ?_
    rw [← hD]
    exact dt_empty s2.heap I2.big
  have h3 : s3.heap = s2.heap.push dObj := by rw [← hs3]
  have f3 : ∀ b ∈ fp, FpOk X pins (upd H2 D (.dT [])) b ∧ b < s3.heap.objs.size := fun b hb => by
    obtain ⟨o, e, _⟩ := T.obj _ _ st2 b hb
    have hlt : b < s2.heap.objs.size := Heap.lt_size e
    refine ⟨⟨?_, (f2 b hb).2⟩, by rw [h3, Heap.size_push]; exact Nat.lt_succ_of_lt hlt⟩
    rw [upd_ne (by rw [← hD]; exact Nat.ne_of_lt hlt)]
    exact (f2 b hb).1
  have st3 : tn 0 s3.heap := T.keep _ _ _ st2 fun b _ o e => by rw [h3]; exact Heap.get?_push_of_some _ e
  have I4 := block_start I3 ok hN f3
  have pg := hg s3 (upd H2 D (.dT [])) s3.heap.objs.size (cellsFrom (s3.heap.objs.size + 1) scope.names (cloFrom X.env.cells scope.names [])) fp
  have pk := hk s3 (upd H2 D (.dT [])) s3.heap.objs.size (cellsFrom (s3.heap.objs.size + 1) scope.names (cloFrom X.env.cells scope.names [])) fp
  have pe := he s3 (upd H2 D (.dT [])) s3.heap.objs.size (cellsFrom (s3.heap.objs.size + 1) scope.names (cloFrom X.env.cells scope.names [])) fp
  have pi1 := hi1 s3 (upd H2 D (.dT [])) s3.heap.objs.size (cellsFrom (s3.heap.objs.size + 1) scope.names (cloFrom X.env.cells scope.names [])) fp
  have pg1 := hg1 s3 (upd H2 D (.dT [])) s3.heap.objs.size (cellsFrom (s3.heap.objs.size + 1) scope.names (cloFrom X.env.cells scope.names [])) fp
  show codeAny _ _ (.compStart (dcE kx vx tg iter tg1 iter1 scope pos) 0 (.ref it) (.ref D) (compEnvC scope (cellsFrom (s3.heap.objs.size + 1) scope.names (cloFrom X.env.cells scope.names [])) s3.heap.objs.size X.env)) (compPost (model X.prog X.w) X.A X.xe use Qf (.ref D) s3.heap.objs.size) { s3 with heap := pushCells (s3.heap.push { cls := .type "dict", data := .dict #[] }) scope.names }
  have nfp : ∀ b ∈ fp, (upd H2 D (.dT [])) b = none := fun b hb => (f3 b hb).1.1
  generalize hce : compEnvC scope (cellsFrom (s3.heap.objs.size + 1) scope.names (cloFrom X.env.cells scope.names [])) s3.heap.objs.size X.env = ce at I4 pg pk pe pi1 pg1 ⊢
  have cL : ce.locals = s3.heap.objs.size := by subst hce; rfl
  generalize hH3 : upd H2 D (.dT []) = H3 at I3 I4 pg pk pe pi1 pg1 w0 nfp f3
  generalize hs4 : ({ s3 with heap := pushCells (s3.heap.push { cls := .type "dict", data := .dict #[] }) scope.names } : Shared) = s4 at I4 ⊢
  have st4 : tn 0 s4.heap := T.keep _ _ _ st3 fun b _ o e => by rw [← hs4]; exact pushCells_keeps _ _ _ _ (Heap.get?_push_of_some _ e)
  have stat : ∀ {σ' : L2.St} {H' : Hp} {s' : Shared}, Inv (X.blk s3 H3 scope ce fp) [] σ' H' s' → (∀ b ∈ fp, H' b = none) → ∀ b ∈ fp, FpOk (X.blk s3 H3 scope ce fp) [] H' b := fun {σ' H' s'} I' hn b hb =>
    ⟨hn b hb, (I'.ok.exf b hb).1, I'.ok.exfs b hb, .inl hb, fun x c e => (I'.ok.exf b hb).2 x c e, fun p hp => absurd (show p ∈ ([] : List (Addr × Obj)) ++ [] from hp) (by simp)⟩
  have loop : codeAny (model X.prog X.w) X.A (.compLoop (dcE kx vx tg iter tg1 iter1 scope pos) 0 (.ref it) (.ref D) ce) (compPost (model X.prog X.w) X.A X.xe use Qf (.ref D) s3.heap.objs.size) s4 := by
    refine loop0 (hs1 ce) (fun n s' => ∃ i H', Inv (X.blk s3 H3 scope ce fp) [] (wipe σ (own.map (·.2))) H' s' ∧ tn i s'.heap ∧ (∀ b ∈ fp, H' b = none) ∧ W i n H') ?_ m0 ⟨0, H3, I4, st4, nfp, w0⟩
    rintro n s5 ⟨i, H5, I5, st5, n5, w5⟩
    rcases turn i n H5 w5 with ⟨stop, qq⟩ | ⟨go, Nx, hNx, step⟩
    · refine thnF (T.done (X.blk s3 H3 scope ce fp) rfl rfl rfl hc i [] s5 _ H5 (fun _ _ => False) I5 (stat I5 n5) st5 stop) fun r s6 ⟨hr, I6⟩ => ?_
      subst hr
      have I7 : Inv X pins σ H5 s6 := I3.call' (ch := fp) I6.os I6.base I6.hok I6.bare fun b hb => let z := (f3 b hb).1.2; ⟨z.2.2.1, z.1, z.2.2.2.1, z.2.2.2.2⟩
      have nC : H5 s3.heap.objs.size = none := by
        have z : H5 ce.locals = none := I6.free
        rw [cL] at z
        exact z
      obtain ⟨m, hn, _⟩ := I6.loc
      have hn : s6.heap.Ns ce.locals m := hn
      rw [cL] at hn
      exact hRR D s3.heap.objs.size s6 m H5 I7 qq hn (I3.fpOk (Nat.le_refl _) nC)
    · refine thnF (T.item (X.blk s3 H3 scope ce fp) rfl rfl rfl hc i [] s5 _ H5 (fun _ _ => False) I5 (stat I5 n5) st5 go) fun r s6 ⟨u, hr, h6⟩ => ?_
      subst hr
      refine thnF h6 fun _ s7 ⟨x, H7, I7, r7, y7, st7, n7⟩ => ?_
      refine thnF (pg.run _ s7 _ H7 x u _ (I7.pinned (stat I7 n7) (T.obj _ _ st7)) r7 (step x H7 y7)) fun _ s8 ⟨σ8, H8, I8, hw8, q8⟩ => ?_
      refine thnF (pi1.run _ s8 σ8 H8 _ I8 q8) fun xv s10 hx => thnF hx fun itv s11 h11 => ?_
      obtain ⟨it1, fp1, tn1, J1, H11, e1, I11, T1, st11, f11, W1, ⟨m1, w1⟩, turn1⟩ := h11
      subst e1
      have hl8 : (wipe σ (own.map (·.2))).length = σ8.length := by rw [← hw8, wipe_length]
      have hk9 : ∀ (j : Nat) v, (wipe σ (own.map (·.2)))[j]? = some (some v) → (wipe σ8 vs1)[j]? = some (some v) := fun j v e => by
        rw [← hw8] at e
        obtain ⟨e1, e2⟩ := wipe_some e
        rw [wipe_out fun z => e2 (hv j z)]
        exact e1
      have stat1 : ∀ {H' : Hp}, (∀ b ∈ fp1, H' b = none) → ∀ b ∈ fp1, FpOk (X.blk s3 H3 scope ce fp) ([] ++ pinsAt fp s7.heap) H' b := fun hn b hb => ⟨hn b hb, (f11 b hb).2⟩
      have lp1 : codeAny (model X.prog X.w) X.A (.compLoop (dcE kx vx tg iter tg1 iter1 scope pos) 1 (.ref it1) (.ref D) ce)
          (fun r s' => match r with
            | .ok _ => ∃ m, m < n ∧ ∃ i H', Inv (X.blk s3 H3 scope ce fp) [] (wipe σ (own.map (·.2))) H' s' ∧ tn i s'.heap ∧ (∀ b ∈ fp, H' b = none) ∧ W i m H'
            | .error _ => False) s11 := by
        refine loop1 (fun k s' => ∃ j H', Inv (X.blk s3 H3 scope ce fp) ([] ++ pinsAt fp s7.heap) (wipe σ8 vs1) H' s' ∧ tn1 j s'.heap ∧ (∀ b ∈ fp1, H' b = none) ∧ W1 j k H') ?_ m1 ⟨0, H11, I11.weak (wipe_length _ _) (fun j v e => (wipe_some e).1), st11, fun b hb => (f11 b hb).1, w1⟩
        rintro k s12 ⟨j, H12, I12, st12, n12, w12⟩
        rcases turn1 j k H12 w12 with ⟨stop1, nx1⟩ | ⟨go1, Nx1, hNx1, step1⟩
        · refine thnF (T1.done (X.blk s3 H3 scope ce fp) rfl rfl rfl hc j _ s12 (wipe σ8 vs1) H12 (fun _ _ => False) I12 (stat1 n12) st12 stop1) fun r s13 ⟨hr, I13⟩ => ?_
          subst hr
          obtain ⟨m', hm, w'⟩ := hNx H12 nx1
          have pin' : ∀ b ∈ fp, ∀ o, s7.heap.get? b = some o → s13.heap.get? b = some o ∧ H12 b = none := fun b hb o e =>
            let z := I13.pin (b, o) (List.mem_append_right _ (List.mem_append_right _ (mem_pinsAt hb e)))
            ⟨z.1, z.2.1⟩
          refine ⟨m', hm, i + 1, H12, (I13.unpinned (pins := [])).weak (hl8.trans (wipe_length σ8 vs1).symm) hk9, T.keep _ _ _ st7 fun b hb o e => (pin' b hb o e).1, fun b hb => ?_, w'⟩
          obtain ⟨o, e, _⟩ := T.obj _ _ st7 b hb
          exact (pin' b hb o e).2
        · refine thnF (T1.item (X.blk s3 H3 scope ce fp) rfl rfl rfl hc j _ s12 (wipe σ8 vs1) H12 (fun _ _ => False) I12 (stat1 n12) st12 go1) fun r s13 ⟨u1, hr, h13⟩ => ?_
          subst hr
          refine thnF h13 fun _ s14 ⟨x1, H14, I14, r14, y14, st14, n14⟩ => ?_
          refine thnF (pg1.run _ s14 (wipe σ8 vs1) H14 x1 u1 _ (I14.pinned (stat1 n14) (T1.obj _ _ st14)) r14 (step1 x1 H14 y14)) fun _ s15 ⟨σ15, H15, I15, hw15, q15⟩ => ?_
          refine thnF (pk.run _ s15 σ15 H15 _ I15 q15) fun kv s16 ⟨ky, H16, I16, r16, q16⟩ => ?_
          refine thnF (pe.run _ s16 σ15 H16 _ I16 q16) fun z s17 ⟨yv, H17, I17, r17, kvs, kk, bb, ey, eb, hD17, hz17, nx⟩ => ?_
          subst ey
          obtain rfl : kv = Value.ref bb := r16
          refine setT_ok (X := X.blk s3 H3 scope ce fp) hu I17 hD17 eb hz17 r17 fun s18 I' => ?_
          obtain ⟨m', hm, w'⟩ := hNx1 _ nx
          have pin' : ∀ b ∈ fp1, ∀ o, s14.heap.get? b = some o → s18.heap.get? b = some o ∧ (upd H17 D (.dT (putK kvs kk yv))) b = none := fun b hb o e =>
            let z := I'.pin (b, o) (List.mem_append_right _ (List.mem_append_right _ (mem_pinsAt hb e)))
            ⟨z.1, z.2.1⟩
          refine ⟨m', hm, j + 1, _, I'.unpinned.weak (by rw [← hw15, wipe_length]) (fun j v e => by rw [← hw15] at e; exact (wipe_some e).1), T1.keep _ _ _ st14 fun b hb o e => (pin' b hb o e).1, fun b hb => ?_, w'⟩
          obtain ⟨o, e, _⟩ := T1.obj _ _ st14 b hb
          exact (pin' b hb o e).2
      exact start1 lp1 (T1.self X.A 0 _ _ _ st11 lp1)
  exact codeAny_compStart_dict loop (T.self X.A 0 _ _ _ st4 loop)
section
variable {kx vx tg iter tg1 iter1 : Expr} {scope : Scope} {own : List (Str × Nat)} {vs1 : List Nat} {pos : Pos} {wi wi1 : TI} {g g1 : TG} {tk tv : TE}
theorem ps_setDc2 {i : Nat} {y : Str} {py spos : Pos} (hc : X.calm = true) (hu : X.A.units + 1 < cLine) (hN : X.N.Nodup) (hy : X.N[i]? = some y) (hyl : X.env.scope.names.lookup y = some .local)
    (hsw : swapsWith (dcE kx vx tg iter tg1 iter1 scope pos) (some (.Name y py)) spos.line X.env = pure true) (hi : PI X tg iter wi) (ok : BlkOk X.N X.env.scope scope own) (hv : ∀ i ∈ vs1, i ∈ own.map (·.2))
    (hg : ∀ (s : Shared) (H : Hp) (C : Addr) (cl : List (Str × Addr)) (fp : List Addr), PG (X.blk s H scope (compEnvC scope cl C X.env) fp) tg g)
    (hi1 : ∀ (s : Shared) (H : Hp) (C : Addr) (cl : List (Str × Addr)) (fp : List Addr), PI (X.blk s H scope (compEnvC scope cl C X.env) fp) tg1 iter1 wi1)
    (hg1 : ∀ (s : Shared) (H : Hp) (C : Addr) (cl : List (Str × Addr)) (fp : List Addr), PG (X.blk s H scope (compEnvC scope cl C X.env) fp) tg1 g1)
    (hk : ∀ (s : Shared) (H : Hp) (C : Addr) (cl : List (Str × Addr)) (fp : List Addr), PE (X.blk s H scope (compEnvC scope cl C X.env) fp) kx tk)
    (he : ∀ (s : Shared) (H : Hp) (C : Addr) (cl : List (Str × Addr)) (fp : List Addr), PE (X.blk s H scope (compEnvC scope cl C X.env) fp) vx tv)
    (hs : ∀ x, foldedSetIterable iter X.env x = pure x := by intro _; rfl) (hs1 : ∀ env x, foldedSetIterable iter1 env x = pure x := by intro _ _; rfl) :
    PS X (.Assign [.Name y py] (dcE kx vx tg iter tg1 iter1 scope pos) spos) (tAsg (tDc2 wi g wi1 g1 tk tv (own.map (·.2)) vs1) (gName i)) := by
  refine ⟨fun pins s σ H D I h => ?_⟩
  rw [exec_Assign_Name_used _ _ _ _ hsw]
  refine wpAny_bind (wpAny_standAt (wpAny_bind ?_))
  show wpAny _ X.A (do let _ ← comprehension (dcE kx vx tg iter tg1 iter1 scope pos) scope X.env (firstIterPos [⟨tg, iter, [], 0⟩, ⟨tg1, iter1, [], 0⟩] pos) newDict false (eval iter X.env) (some (assign (.Name y py) X.env))) _ _ s
  have h : tDc2 wi g wi1 g1 tk tv (own.map (·.2)) vs1 σ H (fun x H1 => gName i x σ H1 D.nx) := h
  refine wpAny_bind (thn (dc2_core (Qf := fun _ s' => SP X pins D .next s') hc hu hN I hi ok hv hg hi1 hg1 hk he hs hs1 h fun L C s' m H' I' q hn f => ?_) fun _ s' hq => wpAny_pure (wpAny_pure hq))
  show wpAny _ _ (assign (.Name y py) X.env (.ref L)) _ _ _
  refine wpAny_assign_Name (store_ok2 (v := V.ref L) I' hN hy (.inl hyl) rfl (fun s2 I2 ⟨a, sb, ha⟩ => ?_) (.inr hyl))
  obtain ⟨f0, f1, f2, f3, f4, f5⟩ := f
  have haC : C ≠ a := by
    rcases ha with z | z
    · rw [z]; exact f1
    · exact fun e => f4 y a z e.symm
  refine ⟨m, hn.sameBut sb haC, fun h3 sb3 => ?_⟩
  exact ⟨_, H', I2.turned (t' := s2.toks) (fun b o hb e => (sb3.2 b hb).trans e) f0 f1 f3 f4 f5, q⟩
end
end
end Dc2

set_option Elab.async false
set_option linter.all false
set_option maxRecDepth 100000
set_option maxHeartbeats 0
/-! The head: the top run in the kernel, and what it leaves, by names. Printed by gen_head.py. -/
namespace Hk
open PySem PySem.Spec PyProof.Rows L2 NdefX SuX
def top (i : Nat) : Stmt := PySem.Challenge.pw_surelet_k81_whole_needed_is_the_longest.main.body.getD i (.Pass ⟨0, 0, 0, 0⟩)
abbrev R : PySem.W.OpenRow := PySem.W.OpenLaw.row PySem.Challenge.rw_surelet_k81_whole_needed_is_the_longest

def as0 : List Addr := [2, 3, 43, 45, 46, 48, 49, 50, 52, 53, 55, 56, 57, 64, 65, 66, 67, 70, 73, 78, 79, 81, 82, 84, 85, 86, 87, 88, 91, 94, 99, 100, 102, 103, 105, 106, 107, 108, 109, 112]
def as1 : List Addr := [115, 120, 121, 123, 124, 126, 127, 128, 129, 130, 133, 136, 141, 142, 144, 145, 147, 148, 149, 150, 151, 154, 157, 162, 163, 165, 166, 168, 169, 170, 171, 172, 175, 178, 183, 184, 186, 187, 189, 190]
def as2 : List Addr := [191, 192, 193, 196, 203, 204, 205, 206, 209, 212, 217, 218, 220, 221, 223, 224, 225, 226, 227, 230, 232, 233, 235, 236, 237, 239, 240, 242, 243, 244, 247, 248, 249, 252, 253, 261, 263, 264, 266, 267]
def as3 : List Addr := [268, 270, 271, 273, 274, 275, 277, 278, 280, 281, 282, 284, 285, 287, 288, 289, 291, 292, 294, 295, 296, 299, 300, 301, 302, 303, 304, 305, 308, 310, 311, 313, 314, 315, 317, 318, 320, 321, 322, 324]
def as4 : List Addr := [325, 327, 328, 329, 331, 332, 334, 335, 336, 338, 339, 341, 342, 350, 352, 353, 355, 356, 357, 359, 360, 362, 363, 364, 366, 367, 369, 370, 371, 373, 374, 376, 377, 378, 380, 381, 383, 384, 385, 387]
def as5 : List Addr := [388, 390, 391, 392, 394, 395, 397, 398, 399, 401, 402, 404, 405, 406, 408, 409, 411, 412, 413, 415, 416, 418, 419, 420, 422, 423, 425, 426, 427, 429, 430, 432, 433, 434, 435, 436, 437, 438, 441, 444]
def as6 : List Addr := [449, 450, 452, 453, 455, 456, 457, 459, 460, 462, 463, 464, 465, 466, 469, 472, 477, 478, 481, 482, 483, 485, 486, 488, 489, 490, 492, 493, 495, 496, 497, 498, 499, 502, 504, 505, 507, 508, 509, 512]
def as7 : List Addr := [517, 518, 520, 521, 523, 524, 525, 527, 528, 530, 531, 532, 533, 534, 537, 540, 545, 546, 548, 549, 551, 552, 553, 555, 556, 558, 559, 560, 561, 562, 565, 568, 573, 574, 576, 577, 579, 580, 581, 583]
def as8 : List Addr := [584, 586, 587, 588, 589, 590, 593, 595, 596, 598, 599, 600, 602, 603, 605, 606, 607, 609, 610, 612, 613, 621, 623, 624, 626, 627, 628, 630, 631, 633, 634, 635, 637, 638, 640, 641, 642, 644, 645, 647]
def as9 : List Addr := [648, 649, 651, 652, 654, 655, 656, 658, 659, 661, 662, 663, 665, 666, 668, 669, 670, 672, 673, 675, 676, 677, 679, 680, 682, 683, 684, 686, 687, 689, 690, 691, 693, 694, 696, 697, 698, 700, 701, 703]
def as10 : List Addr := [704, 705, 708, 709, 710, 711, 712, 713, 714, 717, 720, 721, 722, 724, 725, 727, 728, 729, 731, 732, 734, 735, 736, 738, 739, 741, 742, 743, 745, 746, 748, 749, 750, 752, 753, 755, 756, 757, 759, 760]
def as11 : List Addr := [762, 763, 764, 766, 767, 769, 770, 771, 774, 775, 776, 778, 779, 781, 782, 783, 786, 787, 788, 790, 791, 793, 794, 795, 797, 798, 800, 801, 802, 804, 805, 807, 808, 809, 811, 812, 814, 815, 816, 818]
def as12 : List Addr := [819, 821, 822, 823, 825, 826, 828, 829, 830, 832, 833, 835, 836, 837, 840, 841, 842, 845, 846, 847, 850, 851, 852, 855, 856]
def as : List Addr := as0 ++ (as1 ++ (as2 ++ (as3 ++ (as4 ++ (as5 ++ (as6 ++ (as7 ++ (as8 ++ (as9 ++ (as10 ++ (as11 ++ (as12))))))))))))

/-! ### more facts -/
def clo (K : PySem.W.Frag) (f : Addr) : Addr := match K.lookup f with
  | some ⟨_, _, .func fd, _⟩ => (match fd.closure with
    | [(_, c)] => c
    | _ => 0)
  | _ => 0
def codeA (K : PySem.W.Frag) (f : Addr) : Addr := match K.lookup f with
  | some ⟨_, _, .func fd, _⟩ => (match fd.code with
    | .ref c => c
    | _ => 0)
  | _ => 0
def fdAt (K : PySem.W.Frag) (f : Addr) : FuncData := match K.lookup f with
  | some ⟨_, _, .func fd, _⟩ => fd
  | _ => PySem.W.fnOf "" "" (defArgs (top 0)) [] (defScope (top 0)) .none .none .none .none none .none .none
abbrev FnS : Type := Option (Str × Str × Arguments × FuncBody × Scope × Addr × List Str × Value × Addr)
def fnS (K : PySem.W.Frag) (f : Addr) : FnS := match K.lookup f with
  | some ⟨_, _, .func fd, _⟩ => some (fd.name, fd.qualname, fd.params, fd.body, fd.scope, fd.globals, fd.closure.map (·.1), fd.defaults, fd.builtins)
  | _ => none
abbrev gC (K : PySem.W.Frag) (x : Str) : Addr := He.ga K x
abbrev mC (K : PySem.W.Frag) (C m : Str) : Addr := He.ma K (He.ga K C) m
structure SupD where
  cls : Str
  qual : Str
  st : Stmt
  up : Str
def SupD.val (d : SupD) : FnS := some ("__init__", d.qual, defArgs d.st, .stmts (defBody d.st), defScope d.st, mainGlobals, ["__class__"], .none, builtinsNs)
def SupD.F (K : PySem.W.Frag) (d : SupD) : NF := ⟨"__init__", d.qual, defArgs d.st, defBody d.st, defScope d.st, [("__class__", clo K (mC K d.cls "__init__"))], codeA K (mC K d.cls "__init__")⟩
def theFile : Str := PySem.Challenge.pw_surelet_k81_whole_needed_is_the_longest.main.file
def SupD.ok (K : PySem.W.Frag) (d : SupD) : Bool :=
  (match K.lookup (clo K (mC K d.cls "__init__")) with
    | some ⟨_, _, .cell (some (.ref D)), _⟩ => decide (D = gC K d.cls)
    | _ => false) &&
  (PySem.W.codeIn K (.ref (codeA K (mC K d.cls "__init__"))) d.qual &&
  ((match K.lookup (mC K d.cls "__init__") with
    | some ⟨_, _, .func fd, _⟩ => (match fd.code with | .ref _ => true | _ => false)
    | _ => false) &&
  ((match K.lookup (codeA K (mC K d.cls "__init__")) with
    | some ⟨_, _, .fields vs, _⟩ => (match vs[2]? with
      | some (Value.str fl _) => (theFile == fl)
      | _ => false)
    | _ => false) &&
  ((PySem.W.clsIn K (gC K d.cls)).isSome &&
  (decide (PySem.W.mroIn K (gC K d.cls) (.ref (gC K d.cls)) = some true) &&
  (He.eqO (PySem.W.ks_superIn K (gC K d.cls) (gC K d.cls) "__init__") (some (some (.ref (mC K d.up "__init__")))) &&
  (decide (PySem.W.typeIn K (.ref (mC K d.up "__init__")) = some (.type "function")) &&
  (PySem.W.fnIn K (mC K d.up "__init__") &&
  He.eqO (PySem.W.nsIn K cStatics "thirdparty.any") (some none)))))))))
theorem sup_ok {K : PySem.W.Frag} {d : SupD} (e : fnS K (mC K d.cls "__init__") = d.val) (c : d.ok K = true) {prog : Program} (hp : prog.main.file = theFile) :
    SupF K prog (mC K d.cls "__init__") (fdAt K (mC K d.cls "__init__")) (d.F K) (gC K d.cls) (mC K d.up "__init__") (clo K (mC K d.cls "__init__")) := by
  obtain ⟨c1, c⟩ := He.ba c
  obtain ⟨c2, c⟩ := He.ba c
  obtain ⟨c3, c⟩ := He.ba c
  obtain ⟨c4, c⟩ := He.ba c
  obtain ⟨c5, c⟩ := He.ba c
  obtain ⟨c6, c⟩ := He.ba c
  obtain ⟨c7, c⟩ := He.ba c
  obtain ⟨c8, c⟩ := He.ba c
  obtain ⟨c9, c10⟩ := He.ba c
  unfold fnS at e
  cases q : K.lookup (mC K d.cls "__init__") with
  | none =>
    rw [q] at c3
    cases c3
  | some o =>
    obtain ⟨oc, od, dt, osl⟩ := o
    rw [q] at c3 e
    cases dt with
    | func fd =>
      have eclo : clo K (mC K d.cls "__init__") = (match fd.closure with | [(_, c)] => c | _ => 0) := by
        unfold clo
        rw [q]
      have ecode : codeA K (mC K d.cls "__init__") = (match fd.code with | .ref c => c | _ => 0) := by
        unfold codeA
        rw [q]
      have efd : fdAt K (mC K d.cls "__init__") = fd := by
        unfold fdAt
        rw [q]
      have e2 : (some (fd.name, fd.qualname, fd.params, fd.body, fd.scope, fd.globals, fd.closure.map (·.1), fd.defaults, fd.builtins) : FnS) = some (("__init__" : Str), d.qual, defArgs d.st, FuncBody.stmts (defBody d.st), defScope d.st, mainGlobals, [("__class__" : Str)], Value.none, builtinsNs) := e
      simp only [Option.some.injEq, Prod.mk.injEq] at e2
      obtain ⟨h1, h2, h3, h4, h5, h6, h7, h8, h9⟩ := e2
      have hcl : fd.closure = [(("__class__" : Str), clo K (mC K d.cls "__init__"))] := by
        rw [eclo]
        cases hc : fd.closure with
        | nil => rw [hc] at h7; cases h7
        | cons p r =>
          cases r with
          | nil =>
            rw [hc] at h7
            obtain ⟨p1, p2⟩ := p
            have : p1 = "__class__" := (List.cons.inj h7).1
            rw [this]
          | cons a r => rw [hc] at h7; have z := congrArg List.length h7; simp at z
      have hcd : fd.code = .ref (codeA K (mC K d.cls "__init__")) := by
        rw [ecode]
        cases hc : fd.code with
        | ref c => rfl
        | _ =>
          have c3' : (match fd.code with | .ref _ => true | _ => false) = true := c3
          rw [hc] at c3'
          cases c3'
      refine ⟨rfl, ⟨oc, od, osl, by rw [efd]; exact q⟩, ?_, c2, ?_, ?_, Option.isSome_iff_exists.mp c5, of_decide_eq_true c6, He.eqO_ok c7, of_decide_eq_true c8, c9, He.eqO_ok c10⟩
      · rw [efd]
        obtain ⟨n1, n2, n3, n4, n5, n6, n7, n8, n9, n10, n11, n12, n13, n14, n15⟩ := fd
        simp only at h1 h2 h3 h4 h5 h6 h8 h9 hcl hcd
        subst h1 h2 h3 h4 h5 h6 h8 h9
        subst hcl hcd
        exact ⟨n9, n10, n11, n12, n14, rfl⟩
      · cases q4 : K.lookup (codeA K (mC K d.cls "__init__")) with
        | none => rw [q4] at c4; cases c4
        | some o4 =>
          obtain ⟨oc4, od4, dt4, sl4⟩ := o4
          rw [q4] at c4
          cases dt4 with
          | fields vs =>
            have c4' : (match vs[2]? with | some (Value.str fl _) => (theFile == fl) | _ => false) = true := c4
            cases hv : vs[2]? with
            | none => rw [hv] at c4'; cases c4'
            | some v =>
              rw [hv] at c4'
              cases v with
              | str fl tk => exact ⟨_, _, vs, _, fl, tk, q4, hv, by rw [hp]; exact c4'⟩
              | _ => cases c4'
          | _ => cases c4
      · cases q1 : K.lookup (clo K (mC K d.cls "__init__")) with
        | none => rw [q1] at c1; cases c1
        | some o1 =>
          obtain ⟨oc1, od1, dt1, sl1⟩ := o1
          rw [q1] at c1
          cases dt1 with
          | cell cv =>
            cases cv with
            | none => cases c1
            | some v =>
              cases v with
              | ref D =>
                have eD : D = gC K d.cls := of_decide_eq_true c1
                subst eD
                exact ⟨_, _, _, rfl⟩
              | _ => cases c1
          | _ => cases c1
    | _ => cases c3
inductive Fb where
  | isa (C B : Str)
  | call (C : Str)
  | same (C m B : Str)
  | blt (x : Str) (id : String)
  | sup (d : SupD)
def Fb.ok (K : PySem.W.Frag) : Fb → Bool
  | .isa C B => He.eqO (PySem.W.findIn K (.ref (gC K C)) "__class__") (some (some (.builtin "object.__class__"))) && (He.eqO (PySem.W.specialIn K (.builtin "object.__class__") "__get__") (some (some (.builtin "getset_descriptor.__get__"))) &&
      (decide (PySem.W.takesIn K (.builtin "object.__class__") = some true) && (decide (PySem.W.mroIn K (gC K C) (.type "object") = some true) && decide (PySem.W.kitOne K (.ref (gC K C)) (.ref (gC K B)) = some true))))
  | .call C => He.eqO (PySem.W.findIn K (.ref (gC K C)) "__call__") (some (some (.ref (mC K C "__call__")))) && (PySem.W.isFn K (.ref (mC K C "__call__")) && PySem.W.fnIn K (mC K C "__call__"))
  | .same C m B => decide (mC K C m = mC K B m)
  | .blt x id => He.eqO (PySem.W.nsIn K mainGlobals x) (some (some (.builtin id)))
  | .sup d => d.ok K
section
variable {K : PySem.W.Frag} {h : Heap} {mg : Str → Option Value}
theorem isa_ok {C B : Str} (cl : Cls K (gC K C)) (c : (Fb.isa C B).ok K = true) {H : Hp} {a dx : Addr} {fs : List (Str × V)} (e : H a = some (.ins (gC K C) dx fs)) :
    TyX K H (.ref a) (.ref (gC K C)) ∧ PySem.W.kitOne K (.ref (gC K C)) (.ref (gC K B)) = some true := by
  obtain ⟨c1, c⟩ := He.ba c
  obtain ⟨c2, c⟩ := He.ba c
  obtain ⟨c3, c⟩ := He.ba c
  obtain ⟨c4, c5⟩ := He.ba c
  exact ⟨.base (.ins e cl (He.eqO_ok c1) (He.eqO_ok c2) (of_decide_eq_true c3) (of_decide_eq_true c4)), of_decide_eq_true c5⟩
theorem call_ok {C : Str} (c : (Fb.call C).ok K = true) : StX.CallO K (gC K C) (mC K C "__call__") := by
  obtain ⟨c1, c⟩ := He.ba c
  obtain ⟨c2, c3⟩ := He.ba c
  exact ⟨He.eqO_ok c1, c2, c3⟩
theorem same_ok {C m B : Str} (c : (Fb.same C m B).ok K = true) : mC K C m = mC K B m := of_decide_eq_true c
theorem blt_ok (X : K.In h) (G : h.Ns mainGlobals mg) {x : Str} {id : String} (c : (Fb.blt x id).ok K = true) : mg x = some (.builtin id) := PySem.W.mg_of X G (He.eqO_ok c)
end

abbrev sd_is_from : Stmt := top 3
def d_is_from : He.DefD := ⟨("is_from", none), "is_from", "is_from", defArgs sd_is_from, defBody sd_is_from, defScope sd_is_from, [], []⟩
abbrev sd__is_demand : Stmt := top 16
def d__is_demand : He.DefD := ⟨("_is_demand", none), "_is_demand", "_is_demand", defArgs sd__is_demand, defBody sd__is_demand, defScope sd__is_demand, [], []⟩
abbrev sd_check_demands : Stmt := top 17
def d_check_demands : He.DefD := ⟨("check_demands", none), "check_demands", "check_demands", defArgs sd_check_demands, defBody sd_check_demands, defScope sd_check_demands, [], []⟩
abbrev sd_rested_moments : Stmt := top 18
def d_rested_moments : He.DefD := ⟨("rested_moments", none), "rested_moments", "rested_moments", defArgs sd_rested_moments, defBody sd_rested_moments, defScope sd_rested_moments, [], []⟩
abbrev sd_all_lines : Stmt := top 19
def d_all_lines : He.DefD := ⟨("all_lines", none), "all_lines", "all_lines", defArgs sd_all_lines, defBody sd_all_lines, defScope sd_all_lines, [], []⟩
abbrev sd_Matching___init__ : Stmt := inClass (top 20) 0
def d_Matching___init__ : He.DefD := ⟨("Matching", some "__init__"), "__init__", "Matching.__init__", defArgs sd_Matching___init__, defBody sd_Matching___init__, defScope sd_Matching___init__, [], []⟩
abbrev sd_Matching__match : Stmt := inClass (top 20) 1
def d_Matching__match : He.DefD := ⟨("Matching", some "_match"), "_match", "Matching._match", defArgs sd_Matching__match, defBody sd_Matching__match, defScope sd_Matching__match, [], []⟩
abbrev sd_Matching__change : Stmt := inClass (top 20) 2
def d_Matching__change : He.DefD := ⟨("Matching", some "_change"), "_change", "Matching._change", defArgs sd_Matching__change, defBody sd_Matching__change, defScope sd_Matching__change, [], []⟩
abbrev sd_Matching_size : Stmt := inClass (top 20) 3
def d_Matching_size : He.DefD := ⟨("Matching", some "size"), "size", "Matching.size", defArgs sd_Matching_size, defBody sd_Matching_size, defScope sd_Matching_size, [], []⟩
abbrev sd_Matching_chains : Stmt := inClass (top 20) 4
def d_Matching_chains : He.DefD := ⟨("Matching", some "chains"), "chains", "Matching.chains", defArgs sd_Matching_chains, defBody sd_Matching_chains, defScope sd_Matching_chains, [], []⟩
abbrev sd_Matching_apart : Stmt := inClass (top 20) 5
def d_Matching_apart : He.DefD := ⟨("Matching", some "apart"), "apart", "Matching.apart", defArgs sd_Matching_apart, defBody sd_Matching_apart, defScope sd_Matching_apart, [], []⟩
abbrev sd_is_number : Stmt := top 24
def d_is_number : He.DefD := ⟨("is_number", none), "is_number", "is_number", defArgs sd_is_number, defBody sd_is_number, defScope sd_is_number, [], []⟩
abbrev sd_is_name : Stmt := top 25
def d_is_name : He.DefD := ⟨("is_name", none), "is_name", "is_name", defArgs sd_is_name, defBody sd_is_name, defScope sd_is_name, [], []⟩
abbrev sd_needed : Stmt := top 27
def d_needed : He.DefD := ⟨("needed", none), "needed", "needed", defArgs sd_needed, defBody sd_needed, defScope sd_needed, [], []⟩
abbrev sd_journeys : Stmt := top 28
def d_journeys : He.DefD := ⟨("journeys", none), "journeys", "journeys", defArgs sd_journeys, defBody sd_journeys, defScope sd_journeys, [], []⟩
abbrev sd_clash : Stmt := top 29
def d_clash : He.DefD := ⟨("clash", none), "clash", "clash", defArgs sd_clash, defBody sd_clash, defScope sd_clash, [], []⟩
abbrev sd_Rest___init__ : Stmt := inClass (top 34) 0
def d_Rest___init__ : He.DefD := ⟨("Rest", some "__init__"), "__init__", "Rest.__init__", defArgs sd_Rest___init__, defBody sd_Rest___init__, defScope sd_Rest___init__, [], []⟩
abbrev sd_Rest___call__ : Stmt := inClass (top 34) 1
def d_Rest___call__ : He.DefD := ⟨("Rest", some "__call__"), "__call__", "Rest.__call__", defArgs sd_Rest___call__, defBody sd_Rest___call__, defScope sd_Rest___call__, [], []⟩
abbrev sd_Rest_forms : Stmt := inClass (top 34) 5
def d_Rest_forms : He.DefD := ⟨("Rest", some "forms"), "forms", "Rest.forms", defArgs sd_Rest_forms, defBody sd_Rest_forms, defScope sd_Rest_forms, [], []⟩
abbrev sd_Rest_period : Stmt := inClass (top 34) 6
def d_Rest_period : He.DefD := ⟨("Rest", some "period"), "period", "Rest.period", defArgs sd_Rest_period, defBody sd_Rest_period, defScope sd_Rest_period, [], []⟩
abbrev sd_Rest_bend : Stmt := inClass (top 34) 7
def d_Rest_bend : He.DefD := ⟨("Rest", some "bend"), "bend", "Rest.bend", defArgs sd_Rest_bend, defBody sd_Rest_bend, defScope sd_Rest_bend, [], []⟩
abbrev sd_Rest_written : Stmt := inClass (top 34) 8
def d_Rest_written : He.DefD := ⟨("Rest", some "written"), "written", "Rest.written", defArgs sd_Rest_written, defBody sd_Rest_written, defScope sd_Rest_written, [], []⟩
abbrev sd_Window__after : Stmt := inClass (top 35) 1
def d_Window__after : He.DefD := ⟨("Window", some "_after"), "_after", "Window._after", defArgs sd_Window__after, defBody sd_Window__after, defScope sd_Window__after, [], []⟩
abbrev sd_Days__after : Stmt := inClass (top 36) 2
def d_Days__after : He.DefD := ⟨("Days", some "_after"), "_after", "Days._after", defArgs sd_Days__after, defBody sd_Days__after, defScope sd_Days__after, [], []⟩
abbrev sd_joined : Stmt := top 37
def d_joined : He.DefD := ⟨("joined", none), "joined", "joined", defArgs sd_joined, defBody sd_joined, defScope sd_joined, [], []⟩
abbrev sd_Later__after : Stmt := inClass (top 38) 1
def d_Later__after : He.DefD := ⟨("Later", some "_after"), "_after", "Later._after", defArgs sd_Later__after, defBody sd_Later__after, defScope sd_Later__after, [], []⟩
abbrev sd_Sooner__after : Stmt := inClass (top 39) 1
def d_Sooner__after : He.DefD := ⟨("Sooner", some "_after"), "_after", "Sooner._after", defArgs sd_Sooner__after, defBody sd_Sooner__after, defScope sd_Sooner__after, [], []⟩
abbrev sd_Next__after : Stmt := inClass (top 40) 1
def d_Next__after : He.DefD := ⟨("Next", some "_after"), "_after", "Next._after", defArgs sd_Next__after, defBody sd_Next__after, defScope sd_Next__after, [], []⟩
abbrev sd__is_row : Stmt := top 44
def d__is_row : He.DefD := ⟨("_is_row", none), "_is_row", "_is_row", defArgs sd__is_row, defBody sd__is_row, defScope sd__is_row, [], []⟩
abbrev sd__all_dists : Stmt := top 45
def d__all_dists : He.DefD := ⟨("_all_dists", none), "_all_dists", "_all_dists", defArgs sd__all_dists, defBody sd__all_dists, defScope sd__all_dists, [], []⟩
abbrev sd__all_kappas : Stmt := top 46
def d__all_kappas : He.DefD := ⟨("_all_kappas", none), "_all_kappas", "_all_kappas", defArgs sd__all_kappas, defBody sd__all_kappas, defScope sd__all_kappas, [], []⟩
abbrev sd_Net___init__ : Stmt := inClass (top 47) 0
def d_Net___init__ : He.DefD := ⟨("Net", some "__init__"), "__init__", "Net.__init__", defArgs sd_Net___init__, defBody sd_Net___init__, defScope sd_Net___init__, [], []⟩
abbrev sd_Net__row : Stmt := inClass (top 47) 1
def d_Net__row : He.DefD := ⟨("Net", some "_row"), "_row", "Net._row", defArgs sd_Net__row, defBody sd_Net__row, defScope sd_Net__row, [], []⟩
abbrev sd_Net_names : Stmt := inClass (top 47) 3
def d_Net_names : He.DefD := ⟨("Net", some "names"), "names", "Net.names", defArgs sd_Net_names, defBody sd_Net_names, defScope sd_Net_names, [], []⟩
abbrev sd_Net_error_of : Stmt := inClass (top 47) 5
def d_Net_error_of : He.DefD := ⟨("Net", some "error_of"), "error_of", "Net.error_of", defArgs sd_Net_error_of, defBody sd_Net_error_of, defScope sd_Net_error_of, [], []⟩
abbrev sd_Net_dist : Stmt := inClass (top 47) 8
def d_Net_dist : He.DefD := ⟨("Net", some "dist"), "dist", "Net.dist", defArgs sd_Net_dist, defBody sd_Net_dist, defScope sd_Net_dist, [], []⟩
abbrev sd_Net_kappa : Stmt := inClass (top 47) 9
def d_Net_kappa : He.DefD := ⟨("Net", some "kappa"), "kappa", "Net.kappa", defArgs sd_Net_kappa, defBody sd_Net_kappa, defScope sd_Net_kappa, [], []⟩
abbrev sd__law_box : Stmt := top 49
def d__law_box : He.DefD := ⟨("_law_box", none), "_law_box", "_law_box", defArgs sd__law_box, defBody sd__law_box, defScope sd__law_box, [], []⟩
abbrev sd__law_take : Stmt := top 50
def d__law_take : He.DefD := ⟨("_law_take", none), "_law_take", "_law_take", defArgs sd__law_take, defBody sd__law_take, defScope sd__law_take, [], []⟩
abbrev sd__law_plain_form : Stmt := top 51
def d__law_plain_form : He.DefD := ⟨("_law_plain_form", none), "_law_plain_form", "_law_plain_form", defArgs sd__law_plain_form, defBody sd__law_plain_form, defScope sd__law_plain_form, [], []⟩
abbrev sd__law_form : Stmt := top 52
def d__law_form : He.DefD := ⟨("_law_form", none), "_law_form", "_law_form", defArgs sd__law_form, defBody sd__law_form, defScope sd__law_form, [], []⟩
abbrev sd__law_after : Stmt := top 53
def d__law_after : He.DefD := ⟨("_law_after", none), "_law_after", "_law_after", defArgs sd__law_after, defBody sd__law_after, defScope sd__law_after, [], []⟩
abbrev sd__law_made : Stmt := top 54
def d__law_made : He.DefD := ⟨("_law_made", none), "_law_made", "_law_made", defArgs sd__law_made, defBody sd__law_made, defScope sd__law_made, [], []⟩
abbrev sd__law_rows : Stmt := top 55
def d__law_rows : He.DefD := ⟨("_law_rows", none), "_law_rows", "_law_rows", defArgs sd__law_rows, defBody sd__law_rows, defScope sd__law_rows, [], []⟩
abbrev sd__law_net : Stmt := top 56
def d__law_net : He.DefD := ⟨("_law_net", none), "_law_net", "_law_net", defArgs sd__law_net, defBody sd__law_net, defScope sd__law_net, [], []⟩
abbrev sd__law_row : Stmt := top 57
def d__law_row : He.DefD := ⟨("_law_row", none), "_law_row", "_law_row", defArgs sd__law_row, defBody sd__law_row, defScope sd__law_row, [], []⟩
abbrev sd__law_line : Stmt := top 58
def d__law_line : He.DefD := ⟨("_law_line", none), "_law_line", "_law_line", defArgs sd__law_line, defBody sd__law_line, defScope sd__law_line, [], []⟩
abbrev sd__law_far : Stmt := top 59
def d__law_far : He.DefD := ⟨("_law_far", none), "_law_far", "_law_far", defArgs sd__law_far, defBody sd__law_far, defScope sd__law_far, [], []⟩
abbrev sd__law_gap : Stmt := top 60
def d__law_gap : He.DefD := ⟨("_law_gap", none), "_law_gap", "_law_gap", defArgs sd__law_gap, defBody sd__law_gap, defScope sd__law_gap, [], []⟩
abbrev sd__law_gaps : Stmt := top 61
def d__law_gaps : He.DefD := ⟨("_law_gaps", none), "_law_gaps", "_law_gaps", defArgs sd__law_gaps, defBody sd__law_gaps, defScope sd__law_gaps, [], []⟩
abbrev sd__law_errors : Stmt := top 62
def d__law_errors : He.DefD := ⟨("_law_errors", none), "_law_errors", "_law_errors", defArgs sd__law_errors, defBody sd__law_errors, defScope sd__law_errors, [], []⟩
abbrev sd__law_lead : Stmt := top 63
def d__law_lead : He.DefD := ⟨("_law_lead", none), "_law_lead", "_law_lead", defArgs sd__law_lead, defBody sd__law_lead, defScope sd__law_lead, [], []⟩
abbrev sd__law_least : Stmt := top 64
def d__law_least : He.DefD := ⟨("_law_least", none), "_law_least", "_law_least", defArgs sd__law_least, defBody sd__law_least, defScope sd__law_least, [], []⟩
abbrev sd__law_booked : Stmt := top 65
def d__law_booked : He.DefD := ⟨("_law_booked", none), "_law_booked", "_law_booked", defArgs sd__law_booked, defBody sd__law_booked, defScope sd__law_booked, [], []⟩
abbrev sd__law_number : Stmt := top 66
def d__law_number : He.DefD := ⟨("_law_number", none), "_law_number", "_law_number", defArgs sd__law_number, defBody sd__law_number, defScope sd__law_number, [], []⟩
abbrev sd__law_lines_good : Stmt := top 67
def d__law_lines_good : He.DefD := ⟨("_law_lines_good", none), "_law_lines_good", "_law_lines_good", defArgs sd__law_lines_good, defBody sd__law_lines_good, defScope sd__law_lines_good, [], []⟩
abbrev sd__law_apart : Stmt := top 68
def d__law_apart : He.DefD := ⟨("_law_apart", none), "_law_apart", "_law_apart", defArgs sd__law_apart, defBody sd__law_apart, defScope sd__law_apart, [], []⟩
abbrev sd__law_greatest : Stmt := top 69
def d__law_greatest : He.DefD := ⟨("_law_greatest", none), "_law_greatest", "_law_greatest", defArgs sd__law_greatest, defBody sd__law_greatest, defScope sd__law_greatest, [], []⟩
abbrev sd_law : Stmt := top 70
def d_law : He.DefD := ⟨("law", none), "law", "law", defArgs sd_law, defBody sd_law, defScope sd_law, [], []⟩
abbrev ss_Window : Stmt := inClass (top 35) 0
def u_Window : SupD := ⟨"Window", "Window.__init__", ss_Window, "Rest"⟩
abbrev ss_Days : Stmt := inClass (top 36) 0
def u_Days : SupD := ⟨"Days", "Days.__init__", ss_Days, "Rest"⟩
abbrev ss_Later : Stmt := inClass (top 38) 0
def u_Later : SupD := ⟨"Later", "Later.__init__", ss_Later, "Rest"⟩
abbrev ss_Sooner : Stmt := inClass (top 39) 0
def u_Sooner : SupD := ⟨"Sooner", "Sooner.__init__", ss_Sooner, "Rest"⟩
abbrev ss_Next : Stmt := inClass (top 40) 0
def u_Next : SupD := ⟨"Next", "Next.__init__", ss_Next, "Rest"⟩
def fn0 : List He.DefD := [d_is_from, d__is_demand, d_check_demands, d_rested_moments, d_all_lines, d_Matching___init__, d_Matching__match, d_Matching__change, d_Matching_size, d_Matching_chains, d_Matching_apart, d_is_number, d_is_name, d_needed, d_journeys, d_clash, d_Rest___init__, d_Rest___call__, d_Rest_forms, d_Rest_period]
def fn1 : List He.DefD := [d_Rest_bend, d_Rest_written, d_Window__after, d_Days__after, d_joined, d_Later__after, d_Sooner__after, d_Next__after, d__is_row, d__all_dists, d__all_kappas, d_Net___init__, d_Net__row, d_Net_names, d_Net_error_of, d_Net_dist, d_Net_kappa, d__law_box, d__law_take, d__law_plain_form]
def fn2 : List He.DefD := [d__law_form, d__law_after, d__law_made, d__law_rows, d__law_net, d__law_row, d__law_line, d__law_far, d__law_gap, d__law_gaps, d__law_errors, d__law_lead, d__law_least, d__law_booked, d__law_number, d__law_lines_good, d__law_apart, d__law_greatest, d_law]
def fn : List He.DefD := fn0 ++ (fn1 ++ (fn2))
def fa0 : List He.Fa := [.glo "is_from", .glo "_is_demand", .glo "check_demands", .glo "rested_moments", .glo "all_lines", .glo "is_number", .glo "is_name", .glo "needed", .glo "journeys", .glo "clash", .glo "joined", .glo "_is_row", .glo "_all_dists", .glo "_all_kappas", .glo "_law_box", .glo "_law_take", .glo "_law_plain_form", .glo "_law_form", .glo "_law_after", .glo "_law_made"]
def fa1 : List He.Fa := [.glo "_law_rows", .glo "_law_net", .glo "_law_row", .glo "_law_line", .glo "_law_far", .glo "_law_gap", .glo "_law_gaps", .glo "_law_errors", .glo "_law_lead", .glo "_law_least", .glo "_law_booked", .glo "_law_number", .glo "_law_lines_good", .glo "_law_apart", .glo "_law_greatest", .glo "law", .glo "Matching", .glo "Window", .glo "Days", .glo "Later"]
def fa2 : List He.Fa := [.glo "Sooner", .glo "Next", .glo "Net", .glo "Rest", .free "isinstance", .free "int", .free "bool", .free "str", .free "tuple", .free "list", .free "len", .free "sorted", .free "range", .free "enumerate", .free "super", .free "max", .free "min", .free "sum", .free "reversed", .free "all"]
def fa3 : List He.Fa := [.free "zip", .free "repr", .int "MOST_BOOKED" 60, .int "FORMS" 6, .int "BORDERS" 12, .int "PERIOD" 2000, .int "MOST_PLACES" 12, .int "MOST_ERROR" 100, .str "LETTERS" "abcdefghijklmnopqrstuvwxyz", .str "DIGITS" "0123456789", .cls "Matching", .cls "Window", .cls "Days", .cls "Later", .cls "Sooner", .cls "Next", .cls "Net", .noat "Matching" "_lines", .noat "Matching" "_rights", .noat "Matching" "_lefts"]
def fa4 : List He.Fa := [.noat "Window" "_text", .noat "Window" "_forms", .noat "Window" "_period", .noat "Window" "_bend", .noat "Window" "width", .noat "Days" "_text", .noat "Days" "_forms", .noat "Days" "_period", .noat "Days" "_bend", .noat "Days" "every", .noat "Days" "_borders", .noat "Later" "_text", .noat "Later" "_forms", .noat "Later" "_period", .noat "Later" "_bend", .noat "Later" "first", .noat "Later" "second", .noat "Sooner" "_text", .noat "Sooner" "_forms", .noat "Sooner" "_period"]
def fa5 : List He.Fa := [.noat "Sooner" "_bend", .noat "Sooner" "first", .noat "Sooner" "second", .noat "Next" "_text", .noat "Next" "_forms", .noat "Next" "_period", .noat "Next" "_bend", .noat "Next" "first", .noat "Next" "second", .noat "Net" "rest", .noat "Net" "_known", .noat "Net" "_dists", .noat "Net" "_kappas", .meth "Matching" "_match", .meth "Matching" "_change", .meth "Matching" "size", .meth "Matching" "chains", .meth "Matching" "apart", .meth "Window" "_after", .meth "Window" "forms"]
def fa6 : List He.Fa := [.meth "Window" "period", .meth "Window" "bend", .meth "Window" "written", .meth "Days" "_after", .meth "Days" "forms", .meth "Days" "period", .meth "Days" "bend", .meth "Days" "written", .meth "Later" "_after", .meth "Later" "forms", .meth "Later" "period", .meth "Later" "bend", .meth "Later" "written", .meth "Sooner" "_after", .meth "Sooner" "forms", .meth "Sooner" "period", .meth "Sooner" "bend", .meth "Sooner" "written", .meth "Next" "_after", .meth "Next" "forms"]
def fa7 : List He.Fa := [.meth "Next" "period", .meth "Next" "bend", .meth "Next" "written", .meth "Net" "_row", .meth "Net" "names", .meth "Net" "error_of", .meth "Net" "dist", .meth "Net" "kappa", .mkr "Matching", .mkr "Window", .mkr "Days", .mkr "Later", .mkr "Sooner", .mkr "Next", .mkr "Net"]
def fa : List He.Fa := fa0 ++ (fa1 ++ (fa2 ++ (fa3 ++ (fa4 ++ (fa5 ++ (fa6 ++ (fa7)))))))
def fb : List Fb := [.isa "Window" "Rest", .isa "Days" "Rest", .isa "Later" "Rest", .isa "Sooner" "Rest", .isa "Next" "Rest", .call "Window", .call "Days", .call "Later", .call "Sooner", .call "Next", .same "Window" "forms" "Rest", .same "Window" "period" "Rest", .same "Window" "bend" "Rest", .same "Window" "written" "Rest", .same "Window" "__call__" "Rest", .same "Days" "forms" "Rest", .same "Days" "period" "Rest", .same "Days" "bend" "Rest", .same "Days" "written" "Rest", .same "Days" "__call__" "Rest", .same "Later" "forms" "Rest", .same "Later" "period" "Rest", .same "Later" "bend" "Rest", .same "Later" "written" "Rest", .same "Later" "__call__" "Rest", .same "Sooner" "forms" "Rest", .same "Sooner" "period" "Rest", .same "Sooner" "bend" "Rest", .same "Sooner" "written" "Rest", .same "Sooner" "__call__" "Rest", .same "Next" "forms" "Rest", .same "Next" "period" "Rest", .same "Next" "bend" "Rest", .same "Next" "written" "Rest", .same "Next" "__call__" "Rest", .blt "lcm" "math.lcm", .sup u_Window, .sup u_Days, .sup u_Later, .sup u_Sooner, .sup u_Next]
def sups : List SupD := [u_Window, u_Days, u_Later, u_Sooner, u_Next]

/-! ### the Hook -/
abbrev AlM : Type := He.AlD × Bool × List FnS
def obsM (K : PySem.W.Frag) : AlM := (He.obsD fa fn K, fb.all fun f => f.ok K, sups.map fun d => fnS K (mC K d.cls "__init__"))
def valM : AlM := (He.valD fn, true, sups.map SupD.val)
def hookM : PySem.W.Hook where
  α := AlM
  obs := fun s => obsM (He.frG s.heap.get? as)
  val := fun _ => valM
  says := fun _ h => ∃ K : PySem.W.Frag, K.In h ∧ obsM K = valM
  of := fun _ _ e => ⟨_, He.frG_in, e⟩
  keeps := fun _ _ _ ⟨K, hK, c⟩ k => ⟨K, PySem.W.Frag.In.keeps hK k, c⟩
def ob (s : PySem.W.SharedT) : AlM := obsM (He.frG (HandSHeadRun.getT s) as)
theorem ob_eq (s : PySem.W.SharedT) : ob s = hookM.obs s.abs := by
  have e : HandSHeadRun.getT s = s.abs.heap.get? := funext (HandSHeadRun.getT_eq s)
  show obsM (He.frG (HandSHeadRun.getT s) as) = obsM (He.frG s.abs.heap.get? as)
  rw [e]

def names0 : List PySem.Str := ["_wall", "is_from", "SureletError", "InvalidNumber", "InvalidBorders", "InvalidRest", "InvalidRow", "TooMany", "Early", "Missing", "UnknownName", "MOST_BOOKED", "_is_demand", "check_demands", "rested_moments", "all_lines", "Matching", "LETTERS", "DIGITS", "is_number", "is_name", "needed", "journeys", "clash", "FORMS", "BORDERS", "PERIOD", "Rest", "Window", "Days"]
def names1 : List PySem.Str := ["joined", "Later", "Sooner", "Next", "MOST_PLACES", "MOST_ERROR", "_is_row", "_all_dists", "_all_kappas", "Net", "_law_box", "_law_take", "_law_plain_form", "_law_form", "_law_after", "_law_made", "_law_rows", "_law_net", "_law_row", "_law_line", "_law_far", "_law_gap", "_law_gaps", "_law_errors", "_law_lead", "_law_least", "_law_booked", "_law_number", "_law_lines_good", "_law_apart"]
def names2 : List PySem.Str := ["_law_greatest"]
def names : List PySem.Str := names0 ++ (names1 ++ (names2))
abbrev qv : Program := PySem.W.view R.prog [0, 70]
end Hk

set_option Elab.async false
set_option linter.all false
set_option maxRecDepth 100000
set_option maxHeartbeats 0
namespace Hk
open PySem PySem.Spec PyProof.Rows L2 NdefX SuX
theorem run (w : World) : HandSHeadRun.RunEqI R qv hookM ob 12000 names w := by
  unfold HandSHeadRun.RunEqI
  kernel_rfl
end Hk

set_option Elab.async false
set_option linter.all false
set_option maxRecDepth 100000
set_option maxHeartbeats 0
/-! The facts by name. Printed by gen_w0.py. -/
namespace Wk
open PySem PySem.Spec PyProof.Rows L2 NdefX SuX Hk
abbrev Tx (K : PySem.W.Frag) (mg : Str → Option Value) : Prop := ∃ h : Heap, K.In h ∧ h.Ns mainGlobals mg ∧ obsM K = valM
section
variable {K : PySem.W.Frag} {mg : Str → Option Value}
theorem Tx.says (T : Tx K mg) : He.SaysD fa fn K := by
  obtain ⟨h, _, _, c⟩ := T
  exact congrArg (fun z : AlM => z.1) c
theorem Tx.fact (T : Tx K mg) (i : Nat) {f : He.Fa} (h : fa[i]? = some f := by rfl) : f.ok K = true := T.says.fact i h
theorem Tx.more (T : Tx K mg) (i : Nat) {f : Fb} (h : fb[i]? = some f := by rfl) : f.ok K = true := by
  obtain ⟨_, _, _, c⟩ := T
  have c1 : (fb.all fun f => f.ok K) = true := congrArg (fun z : AlM => z.2.1) c
  exact List.all_eq_true.mp c1 f (List.mem_of_getElem? h)
theorem fdAt_of {f : Addr} {oc : Value} {od : Option Addr} {fd : FuncData} {osl : Array (Option Value)} (h : K.lookup f = some ⟨oc, od, .func fd, osl⟩) : fdAt K f = fd := by
  unfold fdAt
  rw [h]
theorem Tx.defF (T : Tx K mg) (i : Nat) {d : He.DefD} (h : fn[i]? = some d := by rfl) : FunD K d.name d.qual d.params d.body d.scope (d.dvs K) (d.kws K) (He.fAd K d.at_) (fdAt K (He.fAd K d.at_)) := by
  obtain ⟨fd, F⟩ := T.says.def_ i h
  obtain ⟨oc, od, dV, kV, doc, pm, an, cdv, ct, osl, e, lk, r⟩ := F.ex
  have z : fdAt K (He.fAd K d.at_) = fd := fdAt_of lk
  rw [z]
  exact F
theorem Tx.sup (T : Tx K mg) (i j : Nat) {d : SupD} (h : sups[i]? = some d := by rfl) (hf : fb[j]? = some (.sup d) := by rfl) {prog : Program} (hp : prog.main.file = theFile) :
    SupF K prog (mC K d.cls "__init__") (fdAt K (mC K d.cls "__init__")) (d.F K) (gC K d.cls) (mC K d.up "__init__") (clo K (mC K d.cls "__init__")) := by
  have c1 : d.ok K = true := T.more j hf
  obtain ⟨_, _, _, c⟩ := T
  have e : (sups.map fun d => fnS K (mC K d.cls "__init__")) = sups.map SupD.val := congrArg (fun z : AlM => z.2.2) c
  have e2 : (sups.map fun d => fnS K (mC K d.cls "__init__"))[i]? = (sups.map SupD.val)[i]? := by rw [e]
  rw [List.getElem?_map, List.getElem?_map, h] at e2
  exact sup_ok (Option.some.inj e2) c1 hp

theorem Tx.g_is_from (T : Tx K mg) : mg "is_from" = some (.ref (He.ga K "is_from")) := let c := T.fact 0; let ⟨_, X, G, _⟩ := T; He.glo_ok X G c
theorem Tx.g__is_demand (T : Tx K mg) : mg "_is_demand" = some (.ref (He.ga K "_is_demand")) := let c := T.fact 1; let ⟨_, X, G, _⟩ := T; He.glo_ok X G c
theorem Tx.g_check_demands (T : Tx K mg) : mg "check_demands" = some (.ref (He.ga K "check_demands")) := let c := T.fact 2; let ⟨_, X, G, _⟩ := T; He.glo_ok X G c
theorem Tx.g_rested_moments (T : Tx K mg) : mg "rested_moments" = some (.ref (He.ga K "rested_moments")) := let c := T.fact 3; let ⟨_, X, G, _⟩ := T; He.glo_ok X G c
theorem Tx.g_all_lines (T : Tx K mg) : mg "all_lines" = some (.ref (He.ga K "all_lines")) := let c := T.fact 4; let ⟨_, X, G, _⟩ := T; He.glo_ok X G c
theorem Tx.g_is_number (T : Tx K mg) : mg "is_number" = some (.ref (He.ga K "is_number")) := let c := T.fact 5; let ⟨_, X, G, _⟩ := T; He.glo_ok X G c
theorem Tx.g_is_name (T : Tx K mg) : mg "is_name" = some (.ref (He.ga K "is_name")) := let c := T.fact 6; let ⟨_, X, G, _⟩ := T; He.glo_ok X G c
theorem Tx.g_needed (T : Tx K mg) : mg "needed" = some (.ref (He.ga K "needed")) := let c := T.fact 7; let ⟨_, X, G, _⟩ := T; He.glo_ok X G c
theorem Tx.g_journeys (T : Tx K mg) : mg "journeys" = some (.ref (He.ga K "journeys")) := let c := T.fact 8; let ⟨_, X, G, _⟩ := T; He.glo_ok X G c
theorem Tx.g_clash (T : Tx K mg) : mg "clash" = some (.ref (He.ga K "clash")) := let c := T.fact 9; let ⟨_, X, G, _⟩ := T; He.glo_ok X G c
theorem Tx.g_joined (T : Tx K mg) : mg "joined" = some (.ref (He.ga K "joined")) := let c := T.fact 10; let ⟨_, X, G, _⟩ := T; He.glo_ok X G c
theorem Tx.g__is_row (T : Tx K mg) : mg "_is_row" = some (.ref (He.ga K "_is_row")) := let c := T.fact 11; let ⟨_, X, G, _⟩ := T; He.glo_ok X G c
theorem Tx.g__all_dists (T : Tx K mg) : mg "_all_dists" = some (.ref (He.ga K "_all_dists")) := let c := T.fact 12; let ⟨_, X, G, _⟩ := T; He.glo_ok X G c
theorem Tx.g__all_kappas (T : Tx K mg) : mg "_all_kappas" = some (.ref (He.ga K "_all_kappas")) := let c := T.fact 13; let ⟨_, X, G, _⟩ := T; He.glo_ok X G c
theorem Tx.g__law_box (T : Tx K mg) : mg "_law_box" = some (.ref (He.ga K "_law_box")) := let c := T.fact 14; let ⟨_, X, G, _⟩ := T; He.glo_ok X G c
theorem Tx.g__law_take (T : Tx K mg) : mg "_law_take" = some (.ref (He.ga K "_law_take")) := let c := T.fact 15; let ⟨_, X, G, _⟩ := T; He.glo_ok X G c
theorem Tx.g__law_plain_form (T : Tx K mg) : mg "_law_plain_form" = some (.ref (He.ga K "_law_plain_form")) := let c := T.fact 16; let ⟨_, X, G, _⟩ := T; He.glo_ok X G c
theorem Tx.g__law_form (T : Tx K mg) : mg "_law_form" = some (.ref (He.ga K "_law_form")) := let c := T.fact 17; let ⟨_, X, G, _⟩ := T; He.glo_ok X G c
theorem Tx.g__law_after (T : Tx K mg) : mg "_law_after" = some (.ref (He.ga K "_law_after")) := let c := T.fact 18; let ⟨_, X, G, _⟩ := T; He.glo_ok X G c
theorem Tx.g__law_made (T : Tx K mg) : mg "_law_made" = some (.ref (He.ga K "_law_made")) := let c := T.fact 19; let ⟨_, X, G, _⟩ := T; He.glo_ok X G c
theorem Tx.g__law_rows (T : Tx K mg) : mg "_law_rows" = some (.ref (He.ga K "_law_rows")) := let c := T.fact 20; let ⟨_, X, G, _⟩ := T; He.glo_ok X G c
theorem Tx.g__law_net (T : Tx K mg) : mg "_law_net" = some (.ref (He.ga K "_law_net")) := let c := T.fact 21; let ⟨_, X, G, _⟩ := T; He.glo_ok X G c
theorem Tx.g__law_row (T : Tx K mg) : mg "_law_row" = some (.ref (He.ga K "_law_row")) := let c := T.fact 22; let ⟨_, X, G, _⟩ := T; He.glo_ok X G c
theorem Tx.g__law_line (T : Tx K mg) : mg "_law_line" = some (.ref (He.ga K "_law_line")) := let c := T.fact 23; let ⟨_, X, G, _⟩ := T; He.glo_ok X G c
theorem Tx.g__law_far (T : Tx K mg) : mg "_law_far" = some (.ref (He.ga K "_law_far")) := let c := T.fact 24; let ⟨_, X, G, _⟩ := T; He.glo_ok X G c
theorem Tx.g__law_gap (T : Tx K mg) : mg "_law_gap" = some (.ref (He.ga K "_law_gap")) := let c := T.fact 25; let ⟨_, X, G, _⟩ := T; He.glo_ok X G c
theorem Tx.g__law_gaps (T : Tx K mg) : mg "_law_gaps" = some (.ref (He.ga K "_law_gaps")) := let c := T.fact 26; let ⟨_, X, G, _⟩ := T; He.glo_ok X G c
theorem Tx.g__law_errors (T : Tx K mg) : mg "_law_errors" = some (.ref (He.ga K "_law_errors")) := let c := T.fact 27; let ⟨_, X, G, _⟩ := T; He.glo_ok X G c
theorem Tx.g__law_lead (T : Tx K mg) : mg "_law_lead" = some (.ref (He.ga K "_law_lead")) := let c := T.fact 28; let ⟨_, X, G, _⟩ := T; He.glo_ok X G c
theorem Tx.g__law_least (T : Tx K mg) : mg "_law_least" = some (.ref (He.ga K "_law_least")) := let c := T.fact 29; let ⟨_, X, G, _⟩ := T; He.glo_ok X G c
theorem Tx.g__law_booked (T : Tx K mg) : mg "_law_booked" = some (.ref (He.ga K "_law_booked")) := let c := T.fact 30; let ⟨_, X, G, _⟩ := T; He.glo_ok X G c
theorem Tx.g__law_number (T : Tx K mg) : mg "_law_number" = some (.ref (He.ga K "_law_number")) := let c := T.fact 31; let ⟨_, X, G, _⟩ := T; He.glo_ok X G c
theorem Tx.g__law_lines_good (T : Tx K mg) : mg "_law_lines_good" = some (.ref (He.ga K "_law_lines_good")) := let c := T.fact 32; let ⟨_, X, G, _⟩ := T; He.glo_ok X G c
theorem Tx.g__law_apart (T : Tx K mg) : mg "_law_apart" = some (.ref (He.ga K "_law_apart")) := let c := T.fact 33; let ⟨_, X, G, _⟩ := T; He.glo_ok X G c
theorem Tx.g__law_greatest (T : Tx K mg) : mg "_law_greatest" = some (.ref (He.ga K "_law_greatest")) := let c := T.fact 34; let ⟨_, X, G, _⟩ := T; He.glo_ok X G c
theorem Tx.g_law (T : Tx K mg) : mg "law" = some (.ref (He.ga K "law")) := let c := T.fact 35; let ⟨_, X, G, _⟩ := T; He.glo_ok X G c
theorem Tx.g_Matching (T : Tx K mg) : mg "Matching" = some (.ref (He.ga K "Matching")) := let c := T.fact 36; let ⟨_, X, G, _⟩ := T; He.glo_ok X G c
theorem Tx.g_Window (T : Tx K mg) : mg "Window" = some (.ref (He.ga K "Window")) := let c := T.fact 37; let ⟨_, X, G, _⟩ := T; He.glo_ok X G c
theorem Tx.g_Days (T : Tx K mg) : mg "Days" = some (.ref (He.ga K "Days")) := let c := T.fact 38; let ⟨_, X, G, _⟩ := T; He.glo_ok X G c
theorem Tx.g_Later (T : Tx K mg) : mg "Later" = some (.ref (He.ga K "Later")) := let c := T.fact 39; let ⟨_, X, G, _⟩ := T; He.glo_ok X G c
theorem Tx.g_Sooner (T : Tx K mg) : mg "Sooner" = some (.ref (He.ga K "Sooner")) := let c := T.fact 40; let ⟨_, X, G, _⟩ := T; He.glo_ok X G c
theorem Tx.g_Next (T : Tx K mg) : mg "Next" = some (.ref (He.ga K "Next")) := let c := T.fact 41; let ⟨_, X, G, _⟩ := T; He.glo_ok X G c
theorem Tx.g_Net (T : Tx K mg) : mg "Net" = some (.ref (He.ga K "Net")) := let c := T.fact 42; let ⟨_, X, G, _⟩ := T; He.glo_ok X G c
theorem Tx.g_Rest (T : Tx K mg) : mg "Rest" = some (.ref (He.ga K "Rest")) := let c := T.fact 43; let ⟨_, X, G, _⟩ := T; He.glo_ok X G c
theorem Tx.f_isinstance (T : Tx K mg) : mg "isinstance" = none := let c := T.fact 44; let ⟨_, X, G, _⟩ := T; He.free_ok X G c
theorem Tx.f_int (T : Tx K mg) : mg "int" = none := let c := T.fact 45; let ⟨_, X, G, _⟩ := T; He.free_ok X G c
theorem Tx.f_bool (T : Tx K mg) : mg "bool" = none := let c := T.fact 46; let ⟨_, X, G, _⟩ := T; He.free_ok X G c
theorem Tx.f_str (T : Tx K mg) : mg "str" = none := let c := T.fact 47; let ⟨_, X, G, _⟩ := T; He.free_ok X G c
theorem Tx.f_tuple (T : Tx K mg) : mg "tuple" = none := let c := T.fact 48; let ⟨_, X, G, _⟩ := T; He.free_ok X G c
theorem Tx.f_list (T : Tx K mg) : mg "list" = none := let c := T.fact 49; let ⟨_, X, G, _⟩ := T; He.free_ok X G c
theorem Tx.f_len (T : Tx K mg) : mg "len" = none := let c := T.fact 50; let ⟨_, X, G, _⟩ := T; He.free_ok X G c
theorem Tx.f_sorted (T : Tx K mg) : mg "sorted" = none := let c := T.fact 51; let ⟨_, X, G, _⟩ := T; He.free_ok X G c
theorem Tx.f_range (T : Tx K mg) : mg "range" = none := let c := T.fact 52; let ⟨_, X, G, _⟩ := T; He.free_ok X G c
theorem Tx.f_enumerate (T : Tx K mg) : mg "enumerate" = none := let c := T.fact 53; let ⟨_, X, G, _⟩ := T; He.free_ok X G c
theorem Tx.f_super (T : Tx K mg) : mg "super" = none := let c := T.fact 54; let ⟨_, X, G, _⟩ := T; He.free_ok X G c
theorem Tx.f_max (T : Tx K mg) : mg "max" = none := let c := T.fact 55; let ⟨_, X, G, _⟩ := T; He.free_ok X G c
theorem Tx.f_min (T : Tx K mg) : mg "min" = none := let c := T.fact 56; let ⟨_, X, G, _⟩ := T; He.free_ok X G c
theorem Tx.f_sum (T : Tx K mg) : mg "sum" = none := let c := T.fact 57; let ⟨_, X, G, _⟩ := T; He.free_ok X G c
theorem Tx.f_reversed (T : Tx K mg) : mg "reversed" = none := let c := T.fact 58; let ⟨_, X, G, _⟩ := T; He.free_ok X G c
theorem Tx.f_all (T : Tx K mg) : mg "all" = none := let c := T.fact 59; let ⟨_, X, G, _⟩ := T; He.free_ok X G c
theorem Tx.f_zip (T : Tx K mg) : mg "zip" = none := let c := T.fact 60; let ⟨_, X, G, _⟩ := T; He.free_ok X G c
theorem Tx.f_repr (T : Tx K mg) : mg "repr" = none := let c := T.fact 61; let ⟨_, X, G, _⟩ := T; He.free_ok X G c
theorem Tx.i_MOST_BOOKED (T : Tx K mg) : ∃ t, mg "MOST_BOOKED" = some (.int 60 t) := let c := T.fact 62; let ⟨_, X, G, _⟩ := T; He.int_ok X G c
theorem Tx.i_FORMS (T : Tx K mg) : ∃ t, mg "FORMS" = some (.int 6 t) := let c := T.fact 63; let ⟨_, X, G, _⟩ := T; He.int_ok X G c
theorem Tx.i_BORDERS (T : Tx K mg) : ∃ t, mg "BORDERS" = some (.int 12 t) := let c := T.fact 64; let ⟨_, X, G, _⟩ := T; He.int_ok X G c
theorem Tx.i_PERIOD (T : Tx K mg) : ∃ t, mg "PERIOD" = some (.int 2000 t) := let c := T.fact 65; let ⟨_, X, G, _⟩ := T; He.int_ok X G c
theorem Tx.i_MOST_PLACES (T : Tx K mg) : ∃ t, mg "MOST_PLACES" = some (.int 12 t) := let c := T.fact 66; let ⟨_, X, G, _⟩ := T; He.int_ok X G c
theorem Tx.i_MOST_ERROR (T : Tx K mg) : ∃ t, mg "MOST_ERROR" = some (.int 100 t) := let c := T.fact 67; let ⟨_, X, G, _⟩ := T; He.int_ok X G c
theorem Tx.s_LETTERS (T : Tx K mg) : ∃ t, mg "LETTERS" = some (.str "abcdefghijklmnopqrstuvwxyz" t) := let c := T.fact 68; let ⟨_, X, G, _⟩ := T; He.str_ok X G c
theorem Tx.s_DIGITS (T : Tx K mg) : ∃ t, mg "DIGITS" = some (.str "0123456789" t) := let c := T.fact 69; let ⟨_, X, G, _⟩ := T; He.str_ok X G c
theorem Tx.c_Matching (T : Tx K mg) : Cls K (He.ga K "Matching") := He.cls_ok (T.fact 70)
theorem Tx.c_Window (T : Tx K mg) : Cls K (He.ga K "Window") := He.cls_ok (T.fact 71)
theorem Tx.c_Days (T : Tx K mg) : Cls K (He.ga K "Days") := He.cls_ok (T.fact 72)
theorem Tx.c_Later (T : Tx K mg) : Cls K (He.ga K "Later") := He.cls_ok (T.fact 73)
theorem Tx.c_Sooner (T : Tx K mg) : Cls K (He.ga K "Sooner") := He.cls_ok (T.fact 74)
theorem Tx.c_Next (T : Tx K mg) : Cls K (He.ga K "Next") := He.cls_ok (T.fact 75)
theorem Tx.c_Net (T : Tx K mg) : Cls K (He.ga K "Net") := He.cls_ok (T.fact 76)
theorem Tx.n_Matching__lines (T : Tx K mg) : NoAttr K (He.ga K "Matching") "_lines" := He.noat_ok (T.fact 77)
theorem Tx.n_Matching__rights (T : Tx K mg) : NoAttr K (He.ga K "Matching") "_rights" := He.noat_ok (T.fact 78)
theorem Tx.n_Matching__lefts (T : Tx K mg) : NoAttr K (He.ga K "Matching") "_lefts" := He.noat_ok (T.fact 79)
theorem Tx.n_Window__text (T : Tx K mg) : NoAttr K (He.ga K "Window") "_text" := He.noat_ok (T.fact 80)
theorem Tx.n_Window__forms (T : Tx K mg) : NoAttr K (He.ga K "Window") "_forms" := He.noat_ok (T.fact 81)
theorem Tx.n_Window__period (T : Tx K mg) : NoAttr K (He.ga K "Window") "_period" := He.noat_ok (T.fact 82)
theorem Tx.n_Window__bend (T : Tx K mg) : NoAttr K (He.ga K "Window") "_bend" := He.noat_ok (T.fact 83)
theorem Tx.n_Window_width (T : Tx K mg) : NoAttr K (He.ga K "Window") "width" := He.noat_ok (T.fact 84)
theorem Tx.n_Days__text (T : Tx K mg) : NoAttr K (He.ga K "Days") "_text" := He.noat_ok (T.fact 85)
theorem Tx.n_Days__forms (T : Tx K mg) : NoAttr K (He.ga K "Days") "_forms" := He.noat_ok (T.fact 86)
theorem Tx.n_Days__period (T : Tx K mg) : NoAttr K (He.ga K "Days") "_period" := He.noat_ok (T.fact 87)
theorem Tx.n_Days__bend (T : Tx K mg) : NoAttr K (He.ga K "Days") "_bend" := He.noat_ok (T.fact 88)
theorem Tx.n_Days_every (T : Tx K mg) : NoAttr K (He.ga K "Days") "every" := He.noat_ok (T.fact 89)
theorem Tx.n_Days__borders (T : Tx K mg) : NoAttr K (He.ga K "Days") "_borders" := He.noat_ok (T.fact 90)
theorem Tx.n_Later__text (T : Tx K mg) : NoAttr K (He.ga K "Later") "_text" := He.noat_ok (T.fact 91)
theorem Tx.n_Later__forms (T : Tx K mg) : NoAttr K (He.ga K "Later") "_forms" := He.noat_ok (T.fact 92)
theorem Tx.n_Later__period (T : Tx K mg) : NoAttr K (He.ga K "Later") "_period" := He.noat_ok (T.fact 93)
theorem Tx.n_Later__bend (T : Tx K mg) : NoAttr K (He.ga K "Later") "_bend" := He.noat_ok (T.fact 94)
theorem Tx.n_Later_first (T : Tx K mg) : NoAttr K (He.ga K "Later") "first" := He.noat_ok (T.fact 95)
theorem Tx.n_Later_second (T : Tx K mg) : NoAttr K (He.ga K "Later") "second" := He.noat_ok (T.fact 96)
theorem Tx.n_Sooner__text (T : Tx K mg) : NoAttr K (He.ga K "Sooner") "_text" := He.noat_ok (T.fact 97)
theorem Tx.n_Sooner__forms (T : Tx K mg) : NoAttr K (He.ga K "Sooner") "_forms" := He.noat_ok (T.fact 98)
theorem Tx.n_Sooner__period (T : Tx K mg) : NoAttr K (He.ga K "Sooner") "_period" := He.noat_ok (T.fact 99)
theorem Tx.n_Sooner__bend (T : Tx K mg) : NoAttr K (He.ga K "Sooner") "_bend" := He.noat_ok (T.fact 100)
theorem Tx.n_Sooner_first (T : Tx K mg) : NoAttr K (He.ga K "Sooner") "first" := He.noat_ok (T.fact 101)
theorem Tx.n_Sooner_second (T : Tx K mg) : NoAttr K (He.ga K "Sooner") "second" := He.noat_ok (T.fact 102)
theorem Tx.n_Next__text (T : Tx K mg) : NoAttr K (He.ga K "Next") "_text" := He.noat_ok (T.fact 103)
theorem Tx.n_Next__forms (T : Tx K mg) : NoAttr K (He.ga K "Next") "_forms" := He.noat_ok (T.fact 104)
theorem Tx.n_Next__period (T : Tx K mg) : NoAttr K (He.ga K "Next") "_period" := He.noat_ok (T.fact 105)
theorem Tx.n_Next__bend (T : Tx K mg) : NoAttr K (He.ga K "Next") "_bend" := He.noat_ok (T.fact 106)
theorem Tx.n_Next_first (T : Tx K mg) : NoAttr K (He.ga K "Next") "first" := He.noat_ok (T.fact 107)
theorem Tx.n_Next_second (T : Tx K mg) : NoAttr K (He.ga K "Next") "second" := He.noat_ok (T.fact 108)
theorem Tx.n_Net_rest (T : Tx K mg) : NoAttr K (He.ga K "Net") "rest" := He.noat_ok (T.fact 109)
theorem Tx.n_Net__known (T : Tx K mg) : NoAttr K (He.ga K "Net") "_known" := He.noat_ok (T.fact 110)
theorem Tx.n_Net__dists (T : Tx K mg) : NoAttr K (He.ga K "Net") "_dists" := He.noat_ok (T.fact 111)
theorem Tx.n_Net__kappas (T : Tx K mg) : NoAttr K (He.ga K "Net") "_kappas" := He.noat_ok (T.fact 112)
theorem Tx.m_Matching__match (T : Tx K mg) : Meth K (He.ga K "Matching") "_match" (mC K "Matching" "_match") := He.meth_ok (T.fact 113)
theorem Tx.m_Matching__change (T : Tx K mg) : Meth K (He.ga K "Matching") "_change" (mC K "Matching" "_change") := He.meth_ok (T.fact 114)
theorem Tx.m_Matching_size (T : Tx K mg) : Meth K (He.ga K "Matching") "size" (mC K "Matching" "size") := He.meth_ok (T.fact 115)
theorem Tx.m_Matching_chains (T : Tx K mg) : Meth K (He.ga K "Matching") "chains" (mC K "Matching" "chains") := He.meth_ok (T.fact 116)
theorem Tx.m_Matching_apart (T : Tx K mg) : Meth K (He.ga K "Matching") "apart" (mC K "Matching" "apart") := He.meth_ok (T.fact 117)
theorem Tx.m_Window__after (T : Tx K mg) : Meth K (He.ga K "Window") "_after" (mC K "Window" "_after") := He.meth_ok (T.fact 118)
theorem Tx.m_Window_forms (T : Tx K mg) : Meth K (He.ga K "Window") "forms" (mC K "Window" "forms") := He.meth_ok (T.fact 119)
theorem Tx.m_Window_period (T : Tx K mg) : Meth K (He.ga K "Window") "period" (mC K "Window" "period") := He.meth_ok (T.fact 120)
theorem Tx.m_Window_bend (T : Tx K mg) : Meth K (He.ga K "Window") "bend" (mC K "Window" "bend") := He.meth_ok (T.fact 121)
theorem Tx.m_Window_written (T : Tx K mg) : Meth K (He.ga K "Window") "written" (mC K "Window" "written") := He.meth_ok (T.fact 122)
theorem Tx.m_Days__after (T : Tx K mg) : Meth K (He.ga K "Days") "_after" (mC K "Days" "_after") := He.meth_ok (T.fact 123)
theorem Tx.m_Days_forms (T : Tx K mg) : Meth K (He.ga K "Days") "forms" (mC K "Days" "forms") := He.meth_ok (T.fact 124)
theorem Tx.m_Days_period (T : Tx K mg) : Meth K (He.ga K "Days") "period" (mC K "Days" "period") := He.meth_ok (T.fact 125)
theorem Tx.m_Days_bend (T : Tx K mg) : Meth K (He.ga K "Days") "bend" (mC K "Days" "bend") := He.meth_ok (T.fact 126)
theorem Tx.m_Days_written (T : Tx K mg) : Meth K (He.ga K "Days") "written" (mC K "Days" "written") := He.meth_ok (T.fact 127)
theorem Tx.m_Later__after (T : Tx K mg) : Meth K (He.ga K "Later") "_after" (mC K "Later" "_after") := He.meth_ok (T.fact 128)
theorem Tx.m_Later_forms (T : Tx K mg) : Meth K (He.ga K "Later") "forms" (mC K "Later" "forms") := He.meth_ok (T.fact 129)
theorem Tx.m_Later_period (T : Tx K mg) : Meth K (He.ga K "Later") "period" (mC K "Later" "period") := He.meth_ok (T.fact 130)
theorem Tx.m_Later_bend (T : Tx K mg) : Meth K (He.ga K "Later") "bend" (mC K "Later" "bend") := He.meth_ok (T.fact 131)
theorem Tx.m_Later_written (T : Tx K mg) : Meth K (He.ga K "Later") "written" (mC K "Later" "written") := He.meth_ok (T.fact 132)
theorem Tx.m_Sooner__after (T : Tx K mg) : Meth K (He.ga K "Sooner") "_after" (mC K "Sooner" "_after") := He.meth_ok (T.fact 133)
theorem Tx.m_Sooner_forms (T : Tx K mg) : Meth K (He.ga K "Sooner") "forms" (mC K "Sooner" "forms") := He.meth_ok (T.fact 134)
theorem Tx.m_Sooner_period (T : Tx K mg) : Meth K (He.ga K "Sooner") "period" (mC K "Sooner" "period") := He.meth_ok (T.fact 135)
theorem Tx.m_Sooner_bend (T : Tx K mg) : Meth K (He.ga K "Sooner") "bend" (mC K "Sooner" "bend") := He.meth_ok (T.fact 136)
theorem Tx.m_Sooner_written (T : Tx K mg) : Meth K (He.ga K "Sooner") "written" (mC K "Sooner" "written") := He.meth_ok (T.fact 137)
theorem Tx.m_Next__after (T : Tx K mg) : Meth K (He.ga K "Next") "_after" (mC K "Next" "_after") := He.meth_ok (T.fact 138)
theorem Tx.m_Next_forms (T : Tx K mg) : Meth K (He.ga K "Next") "forms" (mC K "Next" "forms") := He.meth_ok (T.fact 139)
theorem Tx.m_Next_period (T : Tx K mg) : Meth K (He.ga K "Next") "period" (mC K "Next" "period") := He.meth_ok (T.fact 140)
theorem Tx.m_Next_bend (T : Tx K mg) : Meth K (He.ga K "Next") "bend" (mC K "Next" "bend") := He.meth_ok (T.fact 141)
theorem Tx.m_Next_written (T : Tx K mg) : Meth K (He.ga K "Next") "written" (mC K "Next" "written") := He.meth_ok (T.fact 142)
theorem Tx.m_Net__row (T : Tx K mg) : Meth K (He.ga K "Net") "_row" (mC K "Net" "_row") := He.meth_ok (T.fact 143)
theorem Tx.m_Net_names (T : Tx K mg) : Meth K (He.ga K "Net") "names" (mC K "Net" "names") := He.meth_ok (T.fact 144)
theorem Tx.m_Net_error_of (T : Tx K mg) : Meth K (He.ga K "Net") "error_of" (mC K "Net" "error_of") := He.meth_ok (T.fact 145)
theorem Tx.m_Net_dist (T : Tx K mg) : Meth K (He.ga K "Net") "dist" (mC K "Net" "dist") := He.meth_ok (T.fact 146)
theorem Tx.m_Net_kappa (T : Tx K mg) : Meth K (He.ga K "Net") "kappa" (mC K "Net" "kappa") := He.meth_ok (T.fact 147)
theorem Tx.k_Matching (T : Tx K mg) : Mk K (He.ga K "Matching") (mC K "Matching" "__init__") := He.mkr_ok (T.fact 148)
theorem Tx.k_Window (T : Tx K mg) : Mk K (He.ga K "Window") (mC K "Window" "__init__") := He.mkr_ok (T.fact 149)
theorem Tx.k_Days (T : Tx K mg) : Mk K (He.ga K "Days") (mC K "Days" "__init__") := He.mkr_ok (T.fact 150)
theorem Tx.k_Later (T : Tx K mg) : Mk K (He.ga K "Later") (mC K "Later" "__init__") := He.mkr_ok (T.fact 151)
theorem Tx.k_Sooner (T : Tx K mg) : Mk K (He.ga K "Sooner") (mC K "Sooner" "__init__") := He.mkr_ok (T.fact 152)
theorem Tx.k_Next (T : Tx K mg) : Mk K (He.ga K "Next") (mC K "Next" "__init__") := He.mkr_ok (T.fact 153)
theorem Tx.k_Net (T : Tx K mg) : Mk K (He.ga K "Net") (mC K "Net" "__init__") := He.mkr_ok (T.fact 154)
theorem Tx.b_lcm (T : Tx K mg) : mg "lcm" = some (.builtin "math.lcm") := let c := T.more 35; let ⟨_, X, G, _⟩ := T; blt_ok X G c
theorem Tx.isa_Window (T : Tx K mg) {H : Hp} {a dx : Addr} {fs : List (Str × V)} (e : H a = some (.ins (gC K "Window") dx fs)) : TyX K H (.ref a) (.ref (gC K "Window")) ∧ PySem.W.kitOne K (.ref (gC K "Window")) (.ref (gC K "Rest")) = some true := isa_ok T.c_Window (T.more 0) e
theorem Tx.isa_Days (T : Tx K mg) {H : Hp} {a dx : Addr} {fs : List (Str × V)} (e : H a = some (.ins (gC K "Days") dx fs)) : TyX K H (.ref a) (.ref (gC K "Days")) ∧ PySem.W.kitOne K (.ref (gC K "Days")) (.ref (gC K "Rest")) = some true := isa_ok T.c_Days (T.more 1) e
theorem Tx.isa_Later (T : Tx K mg) {H : Hp} {a dx : Addr} {fs : List (Str × V)} (e : H a = some (.ins (gC K "Later") dx fs)) : TyX K H (.ref a) (.ref (gC K "Later")) ∧ PySem.W.kitOne K (.ref (gC K "Later")) (.ref (gC K "Rest")) = some true := isa_ok T.c_Later (T.more 2) e
theorem Tx.isa_Sooner (T : Tx K mg) {H : Hp} {a dx : Addr} {fs : List (Str × V)} (e : H a = some (.ins (gC K "Sooner") dx fs)) : TyX K H (.ref a) (.ref (gC K "Sooner")) ∧ PySem.W.kitOne K (.ref (gC K "Sooner")) (.ref (gC K "Rest")) = some true := isa_ok T.c_Sooner (T.more 3) e
theorem Tx.isa_Next (T : Tx K mg) {H : Hp} {a dx : Addr} {fs : List (Str × V)} (e : H a = some (.ins (gC K "Next") dx fs)) : TyX K H (.ref a) (.ref (gC K "Next")) ∧ PySem.W.kitOne K (.ref (gC K "Next")) (.ref (gC K "Rest")) = some true := isa_ok T.c_Next (T.more 4) e
theorem Tx.call_Window (T : Tx K mg) : StX.CallO K (gC K "Window") (mC K "Window" "__call__") := call_ok (T.more 5)
theorem Tx.call_Days (T : Tx K mg) : StX.CallO K (gC K "Days") (mC K "Days" "__call__") := call_ok (T.more 6)
theorem Tx.call_Later (T : Tx K mg) : StX.CallO K (gC K "Later") (mC K "Later" "__call__") := call_ok (T.more 7)
theorem Tx.call_Sooner (T : Tx K mg) : StX.CallO K (gC K "Sooner") (mC K "Sooner" "__call__") := call_ok (T.more 8)
theorem Tx.call_Next (T : Tx K mg) : StX.CallO K (gC K "Next") (mC K "Next" "__call__") := call_ok (T.more 9)
theorem Tx.same_Window_forms (T : Tx K mg) : mC K "Window" "forms" = mC K "Rest" "forms" := same_ok (T.more 10)
theorem Tx.same_Window_period (T : Tx K mg) : mC K "Window" "period" = mC K "Rest" "period" := same_ok (T.more 11)
theorem Tx.same_Window_bend (T : Tx K mg) : mC K "Window" "bend" = mC K "Rest" "bend" := same_ok (T.more 12)
theorem Tx.same_Window_written (T : Tx K mg) : mC K "Window" "written" = mC K "Rest" "written" := same_ok (T.more 13)
theorem Tx.same_Window___call__ (T : Tx K mg) : mC K "Window" "__call__" = mC K "Rest" "__call__" := same_ok (T.more 14)
theorem Tx.same_Days_forms (T : Tx K mg) : mC K "Days" "forms" = mC K "Rest" "forms" := same_ok (T.more 15)
theorem Tx.same_Days_period (T : Tx K mg) : mC K "Days" "period" = mC K "Rest" "period" := same_ok (T.more 16)
theorem Tx.same_Days_bend (T : Tx K mg) : mC K "Days" "bend" = mC K "Rest" "bend" := same_ok (T.more 17)
theorem Tx.same_Days_written (T : Tx K mg) : mC K "Days" "written" = mC K "Rest" "written" := same_ok (T.more 18)
theorem Tx.same_Days___call__ (T : Tx K mg) : mC K "Days" "__call__" = mC K "Rest" "__call__" := same_ok (T.more 19)
theorem Tx.same_Later_forms (T : Tx K mg) : mC K "Later" "forms" = mC K "Rest" "forms" := same_ok (T.more 20)
theorem Tx.same_Later_period (T : Tx K mg) : mC K "Later" "period" = mC K "Rest" "period" := same_ok (T.more 21)
theorem Tx.same_Later_bend (T : Tx K mg) : mC K "Later" "bend" = mC K "Rest" "bend" := same_ok (T.more 22)
theorem Tx.same_Later_written (T : Tx K mg) : mC K "Later" "written" = mC K "Rest" "written" := same_ok (T.more 23)
theorem Tx.same_Later___call__ (T : Tx K mg) : mC K "Later" "__call__" = mC K "Rest" "__call__" := same_ok (T.more 24)
theorem Tx.same_Sooner_forms (T : Tx K mg) : mC K "Sooner" "forms" = mC K "Rest" "forms" := same_ok (T.more 25)
theorem Tx.same_Sooner_period (T : Tx K mg) : mC K "Sooner" "period" = mC K "Rest" "period" := same_ok (T.more 26)
theorem Tx.same_Sooner_bend (T : Tx K mg) : mC K "Sooner" "bend" = mC K "Rest" "bend" := same_ok (T.more 27)
theorem Tx.same_Sooner_written (T : Tx K mg) : mC K "Sooner" "written" = mC K "Rest" "written" := same_ok (T.more 28)
theorem Tx.same_Sooner___call__ (T : Tx K mg) : mC K "Sooner" "__call__" = mC K "Rest" "__call__" := same_ok (T.more 29)
theorem Tx.same_Next_forms (T : Tx K mg) : mC K "Next" "forms" = mC K "Rest" "forms" := same_ok (T.more 30)
theorem Tx.same_Next_period (T : Tx K mg) : mC K "Next" "period" = mC K "Rest" "period" := same_ok (T.more 31)
theorem Tx.same_Next_bend (T : Tx K mg) : mC K "Next" "bend" = mC K "Rest" "bend" := same_ok (T.more 32)
theorem Tx.same_Next_written (T : Tx K mg) : mC K "Next" "written" = mC K "Rest" "written" := same_ok (T.more 33)
theorem Tx.same_Next___call__ (T : Tx K mg) : mC K "Next" "__call__" = mC K "Rest" "__call__" := same_ok (T.more 34)
theorem Tx.S_Window (T : Tx K mg) {prog : Program} (hp : prog.main.file = theFile) : SupF K prog (mC K "Window" "__init__") (fdAt K (mC K "Window" "__init__")) ((u_Window).F K) (gC K "Window") (mC K "Rest" "__init__") (clo K (mC K "Window" "__init__")) := T.sup 0 36 (d := u_Window) (hp := hp)
theorem Tx.S_Days (T : Tx K mg) {prog : Program} (hp : prog.main.file = theFile) : SupF K prog (mC K "Days" "__init__") (fdAt K (mC K "Days" "__init__")) ((u_Days).F K) (gC K "Days") (mC K "Rest" "__init__") (clo K (mC K "Days" "__init__")) := T.sup 1 37 (d := u_Days) (hp := hp)
theorem Tx.S_Later (T : Tx K mg) {prog : Program} (hp : prog.main.file = theFile) : SupF K prog (mC K "Later" "__init__") (fdAt K (mC K "Later" "__init__")) ((u_Later).F K) (gC K "Later") (mC K "Rest" "__init__") (clo K (mC K "Later" "__init__")) := T.sup 2 38 (d := u_Later) (hp := hp)
theorem Tx.S_Sooner (T : Tx K mg) {prog : Program} (hp : prog.main.file = theFile) : SupF K prog (mC K "Sooner" "__init__") (fdAt K (mC K "Sooner" "__init__")) ((u_Sooner).F K) (gC K "Sooner") (mC K "Rest" "__init__") (clo K (mC K "Sooner" "__init__")) := T.sup 3 39 (d := u_Sooner) (hp := hp)
theorem Tx.S_Next (T : Tx K mg) {prog : Program} (hp : prog.main.file = theFile) : SupF K prog (mC K "Next" "__init__") (fdAt K (mC K "Next" "__init__")) ((u_Next).F K) (gC K "Next") (mC K "Rest" "__init__") (clo K (mC K "Next" "__init__")) := T.sup 4 40 (d := u_Next) (hp := hp)
abbrev N_is_from : List Str := ["value", "least"]
abbrev P_is_from : List Str := ["value", "least"]
theorem sc_is_from : FnScope N_is_from P_is_from (defScope sd_is_from) := ⟨rfl, rfl, rfl, by decide +kernel, rfl, by decide +kernel, by decide +kernel⟩
abbrev a_is_from (K : PySem.W.Frag) : Addr := He.fAd K ("is_from", none)
abbrev FF_is_from (K : PySem.W.Frag) : Prop := FunD K "is_from" "is_from" (defArgs sd_is_from) (defBody sd_is_from) (defScope sd_is_from) [] [] (a_is_from K) (fdAt K (a_is_from K))
theorem Tx.F_is_from (T : Tx K mg) : FF_is_from K := T.defF 0
abbrev O_is_from (P : Program) (w : World) (K : PySem.W.Frag) (mg : Str → Option Value) (base : Heap) (k : Nat) (sp : Sp) : Prop := FnOk P w K mg base CX0 k (a_is_from K) (fdAt K (a_is_from K)) P_is_from sp
theorem Tx.b_is_from (T : Tx K mg) : Binds K (fdAt K (a_is_from K)) P_is_from [] := T.F_is_from.bindsN fun _ _ _ _ _ _ us hl => match us, hl with | [_, _], _ => rfl
abbrev N__is_demand : List Str := ["value", "names"]
abbrev P__is_demand : List Str := ["value", "names"]
theorem sc__is_demand : FnScope N__is_demand P__is_demand (defScope sd__is_demand) := ⟨rfl, rfl, rfl, by decide +kernel, rfl, by decide +kernel, by decide +kernel⟩
abbrev a__is_demand (K : PySem.W.Frag) : Addr := He.fAd K ("_is_demand", none)
abbrev FF__is_demand (K : PySem.W.Frag) : Prop := FunD K "_is_demand" "_is_demand" (defArgs sd__is_demand) (defBody sd__is_demand) (defScope sd__is_demand) [] [] (a__is_demand K) (fdAt K (a__is_demand K))
theorem Tx.F__is_demand (T : Tx K mg) : FF__is_demand K := T.defF 1
abbrev O__is_demand (P : Program) (w : World) (K : PySem.W.Frag) (mg : Str → Option Value) (base : Heap) (k : Nat) (sp : Sp) : Prop := FnOk P w K mg base CX0 k (a__is_demand K) (fdAt K (a__is_demand K)) P__is_demand sp
theorem Tx.b__is_demand (T : Tx K mg) : Binds K (fdAt K (a__is_demand K)) P__is_demand [] := T.F__is_demand.bindsN fun _ _ _ _ _ _ us hl => match us, hl with | [_, _], _ => rfl
abbrev N_check_demands : List Str := ["net", "demands", "names", "at", "demand", "place", "reading"]
abbrev P_check_demands : List Str := ["net", "demands"]
theorem sc_check_demands : FnScope N_check_demands P_check_demands (defScope sd_check_demands) := ⟨rfl, rfl, rfl, by decide +kernel, rfl, by decide +kernel, by decide +kernel⟩
abbrev a_check_demands (K : PySem.W.Frag) : Addr := He.fAd K ("check_demands", none)
abbrev FF_check_demands (K : PySem.W.Frag) : Prop := FunD K "check_demands" "check_demands" (defArgs sd_check_demands) (defBody sd_check_demands) (defScope sd_check_demands) [] [] (a_check_demands K) (fdAt K (a_check_demands K))
theorem Tx.F_check_demands (T : Tx K mg) : FF_check_demands K := T.defF 2
abbrev O_check_demands (P : Program) (w : World) (K : PySem.W.Frag) (mg : Str → Option Value) (base : Heap) (k : Nat) (sp : Sp) : Prop := FnOk P w K mg base CX0 k (a_check_demands K) (fdAt K (a_check_demands K)) P_check_demands sp
theorem Tx.b_check_demands (T : Tx K mg) : Binds K (fdAt K (a_check_demands K)) P_check_demands [] := T.F_check_demands.bindsN fun _ _ _ _ _ _ us hl => match us, hl with | [_, _], _ => rfl
abbrev N_rested_moments : List Str := ["net", "demands", "rest", "place", "reading"]
abbrev P_rested_moments : List Str := ["net", "demands"]
theorem sc_rested_moments : FnScope N_rested_moments P_rested_moments (defScope sd_rested_moments) := ⟨rfl, rfl, rfl, by decide +kernel, rfl, by decide +kernel, by decide +kernel⟩
abbrev a_rested_moments (K : PySem.W.Frag) : Addr := He.fAd K ("rested_moments", none)
abbrev FF_rested_moments (K : PySem.W.Frag) : Prop := FunD K "rested_moments" "rested_moments" (defArgs sd_rested_moments) (defBody sd_rested_moments) (defScope sd_rested_moments) [] [] (a_rested_moments K) (fdAt K (a_rested_moments K))
theorem Tx.F_rested_moments (T : Tx K mg) : FF_rested_moments K := T.defF 3
abbrev O_rested_moments (P : Program) (w : World) (K : PySem.W.Frag) (mg : Str → Option Value) (base : Heap) (k : Nat) (sp : Sp) : Prop := FnOk P w K mg base CX0 k (a_rested_moments K) (fdAt K (a_rested_moments K)) P_rested_moments sp
theorem Tx.b_rested_moments (T : Tx K mg) : Binds K (fdAt K (a_rested_moments K)) P_rested_moments [] := T.F_rested_moments.bindsN fun _ _ _ _ _ _ us hl => match us, hl with | [_, _], _ => rfl
abbrev N_all_lines : List Str := ["net", "demands", "used", "kappas", "rested", "first", "lines", "left", "place", "reading", "line", "right", "other", "due"]
abbrev P_all_lines : List Str := ["net", "demands"]
theorem sc_all_lines : FnScope N_all_lines P_all_lines (defScope sd_all_lines) := ⟨rfl, rfl, rfl, by decide +kernel, rfl, by decide +kernel, by decide +kernel⟩
abbrev a_all_lines (K : PySem.W.Frag) : Addr := He.fAd K ("all_lines", none)
abbrev FF_all_lines (K : PySem.W.Frag) : Prop := FunD K "all_lines" "all_lines" (defArgs sd_all_lines) (defBody sd_all_lines) (defScope sd_all_lines) [] [] (a_all_lines K) (fdAt K (a_all_lines K))
theorem Tx.F_all_lines (T : Tx K mg) : FF_all_lines K := T.defF 4
abbrev O_all_lines (P : Program) (w : World) (K : PySem.W.Frag) (mg : Str → Option Value) (base : Heap) (k : Nat) (sp : Sp) : Prop := FnOk P w K mg base CX0 k (a_all_lines K) (fdAt K (a_all_lines K)) P_all_lines sp
theorem Tx.b_all_lines (T : Tx K mg) : Binds K (fdAt K (a_all_lines K)) P_all_lines [] := T.F_all_lines.bindsN fun _ _ _ _ _ _ us hl => match us, hl with | [_, _], _ => rfl
abbrev N_Matching___init__ : List Str := ["self", "lines", "left"]
abbrev P_Matching___init__ : List Str := ["self", "lines"]
theorem sc_Matching___init__ : FnScope N_Matching___init__ P_Matching___init__ (defScope sd_Matching___init__) := ⟨rfl, rfl, rfl, by decide +kernel, rfl, by decide +kernel, by decide +kernel⟩
abbrev a_Matching___init__ (K : PySem.W.Frag) : Addr := He.fAd K ("Matching", some "__init__")
abbrev FF_Matching___init__ (K : PySem.W.Frag) : Prop := FunD K "__init__" "Matching.__init__" (defArgs sd_Matching___init__) (defBody sd_Matching___init__) (defScope sd_Matching___init__) [] [] (a_Matching___init__ K) (fdAt K (a_Matching___init__ K))
theorem Tx.F_Matching___init__ (T : Tx K mg) : FF_Matching___init__ K := T.defF 5
abbrev O_Matching___init__ (P : Program) (w : World) (K : PySem.W.Frag) (mg : Str → Option Value) (base : Heap) (k : Nat) (sp : Sp) : Prop := FnOk P w K mg base CX0 k (a_Matching___init__ K) (fdAt K (a_Matching___init__ K)) P_Matching___init__ sp
theorem Tx.b_Matching___init__ (T : Tx K mg) : Binds K (fdAt K (a_Matching___init__ K)) P_Matching___init__ [] := T.F_Matching___init__.bindsN fun _ _ _ _ _ _ us hl => match us, hl with | [_, _], _ => rfl
abbrev N_Matching__match : List Str := ["self", "start", "came", "queue", "at", "left", "right"]
abbrev P_Matching__match : List Str := ["self", "start"]
theorem sc_Matching__match : FnScope N_Matching__match P_Matching__match (defScope sd_Matching__match) := ⟨rfl, rfl, rfl, by decide +kernel, rfl, by decide +kernel, by decide +kernel⟩
abbrev a_Matching__match (K : PySem.W.Frag) : Addr := He.fAd K ("Matching", some "_match")
abbrev FF_Matching__match (K : PySem.W.Frag) : Prop := FunD K "_match" "Matching._match" (defArgs sd_Matching__match) (defBody sd_Matching__match) (defScope sd_Matching__match) [] [] (a_Matching__match K) (fdAt K (a_Matching__match K))
theorem Tx.F_Matching__match (T : Tx K mg) : FF_Matching__match K := T.defF 6
abbrev O_Matching__match (P : Program) (w : World) (K : PySem.W.Frag) (mg : Str → Option Value) (base : Heap) (k : Nat) (sp : Sp) : Prop := FnOk P w K mg base CX0 k (a_Matching__match K) (fdAt K (a_Matching__match K)) P_Matching__match sp
theorem Tx.b_Matching__match (T : Tx K mg) : Binds K (fdAt K (a_Matching__match K)) P_Matching__match [] := T.F_Matching__match.bindsN fun _ _ _ _ _ _ us hl => match us, hl with | [_, _], _ => rfl
abbrev N_Matching__change : List Str := ["self", "right", "came", "left", "ahead"]
abbrev P_Matching__change : List Str := ["self", "right", "came"]
theorem sc_Matching__change : FnScope N_Matching__change P_Matching__change (defScope sd_Matching__change) := ⟨rfl, rfl, rfl, by decide +kernel, rfl, by decide +kernel, by decide +kernel⟩
abbrev a_Matching__change (K : PySem.W.Frag) : Addr := He.fAd K ("Matching", some "_change")
abbrev FF_Matching__change (K : PySem.W.Frag) : Prop := FunD K "_change" "Matching._change" (defArgs sd_Matching__change) (defBody sd_Matching__change) (defScope sd_Matching__change) [] [] (a_Matching__change K) (fdAt K (a_Matching__change K))
theorem Tx.F_Matching__change (T : Tx K mg) : FF_Matching__change K := T.defF 7
abbrev O_Matching__change (P : Program) (w : World) (K : PySem.W.Frag) (mg : Str → Option Value) (base : Heap) (k : Nat) (sp : Sp) : Prop := FnOk P w K mg base CX0 k (a_Matching__change K) (fdAt K (a_Matching__change K)) P_Matching__change sp
theorem Tx.b_Matching__change (T : Tx K mg) : Binds K (fdAt K (a_Matching__change K)) P_Matching__change [] := T.F_Matching__change.bindsN fun _ _ _ _ _ _ us hl => match us, hl with | [_, _, _], _ => rfl
abbrev N_Matching_size : List Str := ["self"]
abbrev P_Matching_size : List Str := ["self"]
theorem sc_Matching_size : FnScope N_Matching_size P_Matching_size (defScope sd_Matching_size) := ⟨rfl, rfl, rfl, by decide +kernel, rfl, by decide +kernel, by decide +kernel⟩
abbrev a_Matching_size (K : PySem.W.Frag) : Addr := He.fAd K ("Matching", some "size")
abbrev FF_Matching_size (K : PySem.W.Frag) : Prop := FunD K "size" "Matching.size" (defArgs sd_Matching_size) (defBody sd_Matching_size) (defScope sd_Matching_size) [] [] (a_Matching_size K) (fdAt K (a_Matching_size K))
theorem Tx.F_Matching_size (T : Tx K mg) : FF_Matching_size K := T.defF 8
abbrev O_Matching_size (P : Program) (w : World) (K : PySem.W.Frag) (mg : Str → Option Value) (base : Heap) (k : Nat) (sp : Sp) : Prop := FnOk P w K mg base CX0 k (a_Matching_size K) (fdAt K (a_Matching_size K)) P_Matching_size sp
theorem Tx.b_Matching_size (T : Tx K mg) : Binds K (fdAt K (a_Matching_size K)) P_Matching_size [] := T.F_Matching_size.bindsN fun _ _ _ _ _ _ us hl => match us, hl with | [_], _ => rfl
abbrev N_Matching_chains : List Str := ["self", "chains", "head", "chain", "at"]
abbrev P_Matching_chains : List Str := ["self"]
theorem sc_Matching_chains : FnScope N_Matching_chains P_Matching_chains (defScope sd_Matching_chains) := ⟨rfl, rfl, rfl, by decide +kernel, rfl, by decide +kernel, by decide +kernel⟩
abbrev a_Matching_chains (K : PySem.W.Frag) : Addr := He.fAd K ("Matching", some "chains")
abbrev FF_Matching_chains (K : PySem.W.Frag) : Prop := FunD K "chains" "Matching.chains" (defArgs sd_Matching_chains) (defBody sd_Matching_chains) (defScope sd_Matching_chains) [] [] (a_Matching_chains K) (fdAt K (a_Matching_chains K))
theorem Tx.F_Matching_chains (T : Tx K mg) : FF_Matching_chains K := T.defF 9
abbrev O_Matching_chains (P : Program) (w : World) (K : PySem.W.Frag) (mg : Str → Option Value) (base : Heap) (k : Nat) (sp : Sp) : Prop := FnOk P w K mg base CX0 k (a_Matching_chains K) (fdAt K (a_Matching_chains K)) P_Matching_chains sp
theorem Tx.b_Matching_chains (T : Tx K mg) : Binds K (fdAt K (a_Matching_chains K)) P_Matching_chains [] := T.F_Matching_chains.bindsN fun _ _ _ _ _ _ us hl => match us, hl with | [_], _ => rfl
abbrev N_Matching_apart : List Str := ["self", "queue", "lefts", "rights", "at", "right", "partner", "left", "index"]
abbrev P_Matching_apart : List Str := ["self"]
theorem sc_Matching_apart : FnScope N_Matching_apart P_Matching_apart (defScope sd_Matching_apart) := ⟨rfl, rfl, rfl, by decide +kernel, rfl, by decide +kernel, by decide +kernel⟩
abbrev a_Matching_apart (K : PySem.W.Frag) : Addr := He.fAd K ("Matching", some "apart")
abbrev FF_Matching_apart (K : PySem.W.Frag) : Prop := FunD K "apart" "Matching.apart" (defArgs sd_Matching_apart) (defBody sd_Matching_apart) (defScope sd_Matching_apart) [] [] (a_Matching_apart K) (fdAt K (a_Matching_apart K))
theorem Tx.F_Matching_apart (T : Tx K mg) : FF_Matching_apart K := T.defF 10
abbrev O_Matching_apart (P : Program) (w : World) (K : PySem.W.Frag) (mg : Str → Option Value) (base : Heap) (k : Nat) (sp : Sp) : Prop := FnOk P w K mg base CX0 k (a_Matching_apart K) (fdAt K (a_Matching_apart K)) P_Matching_apart sp
theorem Tx.b_Matching_apart (T : Tx K mg) : Binds K (fdAt K (a_Matching_apart K)) P_Matching_apart [] := T.F_Matching_apart.bindsN fun _ _ _ _ _ _ us hl => match us, hl with | [_], _ => rfl
abbrev N_is_number : List Str := ["value", "least", "most"]
abbrev P_is_number : List Str := ["value", "least", "most"]
theorem sc_is_number : FnScope N_is_number P_is_number (defScope sd_is_number) := ⟨rfl, rfl, rfl, by decide +kernel, rfl, by decide +kernel, by decide +kernel⟩
abbrev a_is_number (K : PySem.W.Frag) : Addr := He.fAd K ("is_number", none)
abbrev FF_is_number (K : PySem.W.Frag) : Prop := FunD K "is_number" "is_number" (defArgs sd_is_number) (defBody sd_is_number) (defScope sd_is_number) [] [] (a_is_number K) (fdAt K (a_is_number K))
theorem Tx.F_is_number (T : Tx K mg) : FF_is_number K := T.defF 11
abbrev O_is_number (P : Program) (w : World) (K : PySem.W.Frag) (mg : Str → Option Value) (base : Heap) (k : Nat) (sp : Sp) : Prop := FnOk P w K mg base CX0 k (a_is_number K) (fdAt K (a_is_number K)) P_is_number sp
theorem Tx.b_is_number (T : Tx K mg) : Binds K (fdAt K (a_is_number K)) P_is_number [] := T.F_is_number.bindsN fun _ _ _ _ _ _ us hl => match us, hl with | [_, _, _], _ => rfl
abbrev N_is_name : List Str := ["value", "sign"]
abbrev P_is_name : List Str := ["value"]
theorem sc_is_name : FnScope N_is_name P_is_name (defScope sd_is_name) := ⟨rfl, rfl, rfl, by decide +kernel, rfl, by decide +kernel, by decide +kernel⟩
abbrev a_is_name (K : PySem.W.Frag) : Addr := He.fAd K ("is_name", none)
abbrev FF_is_name (K : PySem.W.Frag) : Prop := FunD K "is_name" "is_name" (defArgs sd_is_name) (defBody sd_is_name) (defScope sd_is_name) [] [] (a_is_name K) (fdAt K (a_is_name K))
theorem Tx.F_is_name (T : Tx K mg) : FF_is_name K := T.defF 12
abbrev O_is_name (P : Program) (w : World) (K : PySem.W.Frag) (mg : Str → Option Value) (base : Heap) (k : Nat) (sp : Sp) : Prop := FnOk P w K mg base CX0 k (a_is_name K) (fdAt K (a_is_name K)) P_is_name sp
theorem Tx.b_is_name (T : Tx K mg) : Binds K (fdAt K (a_is_name K)) P_is_name [] := T.F_is_name.bindsN fun _ _ _ _ _ _ us hl => match us, hl with | [_], _ => rfl
abbrev N_needed : List Str := ["net", "demands"]
abbrev P_needed : List Str := ["net", "demands"]
theorem sc_needed : FnScope N_needed P_needed (defScope sd_needed) := ⟨rfl, rfl, rfl, by decide +kernel, rfl, by decide +kernel, by decide +kernel⟩
abbrev a_needed (K : PySem.W.Frag) : Addr := He.fAd K ("needed", none)
abbrev FF_needed (K : PySem.W.Frag) : Prop := FunD K "needed" "needed" (defArgs sd_needed) (defBody sd_needed) (defScope sd_needed) [] [] (a_needed K) (fdAt K (a_needed K))
theorem Tx.F_needed (T : Tx K mg) : FF_needed K := T.defF 13
abbrev O_needed (P : Program) (w : World) (K : PySem.W.Frag) (mg : Str → Option Value) (base : Heap) (k : Nat) (sp : Sp) : Prop := FnOk P w K mg base CX0 k (a_needed K) (fdAt K (a_needed K)) P_needed sp
theorem Tx.b_needed (T : Tx K mg) : Binds K (fdAt K (a_needed K)) P_needed [] := T.F_needed.bindsN fun _ _ _ _ _ _ us hl => match us, hl with | [_, _], _ => rfl
abbrev N_journeys : List Str := ["net", "demands"]
abbrev P_journeys : List Str := ["net", "demands"]
theorem sc_journeys : FnScope N_journeys P_journeys (defScope sd_journeys) := ⟨rfl, rfl, rfl, by decide +kernel, rfl, by decide +kernel, by decide +kernel⟩
abbrev a_journeys (K : PySem.W.Frag) : Addr := He.fAd K ("journeys", none)
abbrev FF_journeys (K : PySem.W.Frag) : Prop := FunD K "journeys" "journeys" (defArgs sd_journeys) (defBody sd_journeys) (defScope sd_journeys) [] [] (a_journeys K) (fdAt K (a_journeys K))
theorem Tx.F_journeys (T : Tx K mg) : FF_journeys K := T.defF 14
abbrev O_journeys (P : Program) (w : World) (K : PySem.W.Frag) (mg : Str → Option Value) (base : Heap) (k : Nat) (sp : Sp) : Prop := FnOk P w K mg base CX0 k (a_journeys K) (fdAt K (a_journeys K)) P_journeys sp
theorem Tx.b_journeys (T : Tx K mg) : Binds K (fdAt K (a_journeys K)) P_journeys [] := T.F_journeys.bindsN fun _ _ _ _ _ _ us hl => match us, hl with | [_, _], _ => rfl
abbrev N_clash : List Str := ["net", "demands"]
abbrev P_clash : List Str := ["net", "demands"]
theorem sc_clash : FnScope N_clash P_clash (defScope sd_clash) := ⟨rfl, rfl, rfl, by decide +kernel, rfl, by decide +kernel, by decide +kernel⟩
abbrev a_clash (K : PySem.W.Frag) : Addr := He.fAd K ("clash", none)
abbrev FF_clash (K : PySem.W.Frag) : Prop := FunD K "clash" "clash" (defArgs sd_clash) (defBody sd_clash) (defScope sd_clash) [] [] (a_clash K) (fdAt K (a_clash K))
theorem Tx.F_clash (T : Tx K mg) : FF_clash K := T.defF 15
abbrev O_clash (P : Program) (w : World) (K : PySem.W.Frag) (mg : Str → Option Value) (base : Heap) (k : Nat) (sp : Sp) : Prop := FnOk P w K mg base CX0 k (a_clash K) (fdAt K (a_clash K)) P_clash sp
theorem Tx.b_clash (T : Tx K mg) : Binds K (fdAt K (a_clash K)) P_clash [] := T.F_clash.bindsN fun _ _ _ _ _ _ us hl => match us, hl with | [_, _], _ => rfl
abbrev N_Rest___init__ : List Str := ["self", "text", "forms", "period", "bend"]
abbrev P_Rest___init__ : List Str := ["self", "text", "forms", "period", "bend"]
theorem sc_Rest___init__ : FnScope N_Rest___init__ P_Rest___init__ (defScope sd_Rest___init__) := ⟨rfl, rfl, rfl, by decide +kernel, rfl, by decide +kernel, by decide +kernel⟩
abbrev a_Rest___init__ (K : PySem.W.Frag) : Addr := He.fAd K ("Rest", some "__init__")
abbrev FF_Rest___init__ (K : PySem.W.Frag) : Prop := FunD K "__init__" "Rest.__init__" (defArgs sd_Rest___init__) (defBody sd_Rest___init__) (defScope sd_Rest___init__) [] [] (a_Rest___init__ K) (fdAt K (a_Rest___init__ K))
theorem Tx.F_Rest___init__ (T : Tx K mg) : FF_Rest___init__ K := T.defF 16
abbrev O_Rest___init__ (P : Program) (w : World) (K : PySem.W.Frag) (mg : Str → Option Value) (base : Heap) (k : Nat) (sp : Sp) : Prop := FnOk P w K mg base CX0 k (a_Rest___init__ K) (fdAt K (a_Rest___init__ K)) P_Rest___init__ sp
theorem Tx.b_Rest___init__ (T : Tx K mg) : Binds K (fdAt K (a_Rest___init__ K)) P_Rest___init__ [] := T.F_Rest___init__.bindsN fun _ _ _ _ _ _ us hl => match us, hl with | [_, _, _, _, _], _ => rfl
abbrev N_Rest___call__ : List Str := ["self", "t"]
abbrev P_Rest___call__ : List Str := ["self", "t"]
theorem sc_Rest___call__ : FnScope N_Rest___call__ P_Rest___call__ (defScope sd_Rest___call__) := ⟨rfl, rfl, rfl, by decide +kernel, rfl, by decide +kernel, by decide +kernel⟩
abbrev a_Rest___call__ (K : PySem.W.Frag) : Addr := He.fAd K ("Rest", some "__call__")
abbrev FF_Rest___call__ (K : PySem.W.Frag) : Prop := FunD K "__call__" "Rest.__call__" (defArgs sd_Rest___call__) (defBody sd_Rest___call__) (defScope sd_Rest___call__) [] [] (a_Rest___call__ K) (fdAt K (a_Rest___call__ K))
theorem Tx.F_Rest___call__ (T : Tx K mg) : FF_Rest___call__ K := T.defF 17
abbrev O_Rest___call__ (P : Program) (w : World) (K : PySem.W.Frag) (mg : Str → Option Value) (base : Heap) (k : Nat) (sp : Sp) : Prop := FnOk P w K mg base CX0 k (a_Rest___call__ K) (fdAt K (a_Rest___call__ K)) P_Rest___call__ sp
theorem Tx.b_Rest___call__ (T : Tx K mg) : Binds K (fdAt K (a_Rest___call__ K)) P_Rest___call__ [] := T.F_Rest___call__.bindsN fun _ _ _ _ _ _ us hl => match us, hl with | [_, _], _ => rfl
abbrev N_Rest_forms : List Str := ["self"]
abbrev P_Rest_forms : List Str := ["self"]
theorem sc_Rest_forms : FnScope N_Rest_forms P_Rest_forms (defScope sd_Rest_forms) := ⟨rfl, rfl, rfl, by decide +kernel, rfl, by decide +kernel, by decide +kernel⟩
abbrev a_Rest_forms (K : PySem.W.Frag) : Addr := He.fAd K ("Rest", some "forms")
abbrev FF_Rest_forms (K : PySem.W.Frag) : Prop := FunD K "forms" "Rest.forms" (defArgs sd_Rest_forms) (defBody sd_Rest_forms) (defScope sd_Rest_forms) [] [] (a_Rest_forms K) (fdAt K (a_Rest_forms K))
theorem Tx.F_Rest_forms (T : Tx K mg) : FF_Rest_forms K := T.defF 18
abbrev O_Rest_forms (P : Program) (w : World) (K : PySem.W.Frag) (mg : Str → Option Value) (base : Heap) (k : Nat) (sp : Sp) : Prop := FnOk P w K mg base CX0 k (a_Rest_forms K) (fdAt K (a_Rest_forms K)) P_Rest_forms sp
theorem Tx.b_Rest_forms (T : Tx K mg) : Binds K (fdAt K (a_Rest_forms K)) P_Rest_forms [] := T.F_Rest_forms.bindsN fun _ _ _ _ _ _ us hl => match us, hl with | [_], _ => rfl
abbrev N_Rest_period : List Str := ["self"]
abbrev P_Rest_period : List Str := ["self"]
theorem sc_Rest_period : FnScope N_Rest_period P_Rest_period (defScope sd_Rest_period) := ⟨rfl, rfl, rfl, by decide +kernel, rfl, by decide +kernel, by decide +kernel⟩
abbrev a_Rest_period (K : PySem.W.Frag) : Addr := He.fAd K ("Rest", some "period")
abbrev FF_Rest_period (K : PySem.W.Frag) : Prop := FunD K "period" "Rest.period" (defArgs sd_Rest_period) (defBody sd_Rest_period) (defScope sd_Rest_period) [] [] (a_Rest_period K) (fdAt K (a_Rest_period K))
theorem Tx.F_Rest_period (T : Tx K mg) : FF_Rest_period K := T.defF 19
abbrev O_Rest_period (P : Program) (w : World) (K : PySem.W.Frag) (mg : Str → Option Value) (base : Heap) (k : Nat) (sp : Sp) : Prop := FnOk P w K mg base CX0 k (a_Rest_period K) (fdAt K (a_Rest_period K)) P_Rest_period sp
theorem Tx.b_Rest_period (T : Tx K mg) : Binds K (fdAt K (a_Rest_period K)) P_Rest_period [] := T.F_Rest_period.bindsN fun _ _ _ _ _ _ us hl => match us, hl with | [_], _ => rfl
abbrev N_Rest_bend : List Str := ["self"]
abbrev P_Rest_bend : List Str := ["self"]
theorem sc_Rest_bend : FnScope N_Rest_bend P_Rest_bend (defScope sd_Rest_bend) := ⟨rfl, rfl, rfl, by decide +kernel, rfl, by decide +kernel, by decide +kernel⟩
abbrev a_Rest_bend (K : PySem.W.Frag) : Addr := He.fAd K ("Rest", some "bend")
abbrev FF_Rest_bend (K : PySem.W.Frag) : Prop := FunD K "bend" "Rest.bend" (defArgs sd_Rest_bend) (defBody sd_Rest_bend) (defScope sd_Rest_bend) [] [] (a_Rest_bend K) (fdAt K (a_Rest_bend K))
theorem Tx.F_Rest_bend (T : Tx K mg) : FF_Rest_bend K := T.defF 20
abbrev O_Rest_bend (P : Program) (w : World) (K : PySem.W.Frag) (mg : Str → Option Value) (base : Heap) (k : Nat) (sp : Sp) : Prop := FnOk P w K mg base CX0 k (a_Rest_bend K) (fdAt K (a_Rest_bend K)) P_Rest_bend sp
theorem Tx.b_Rest_bend (T : Tx K mg) : Binds K (fdAt K (a_Rest_bend K)) P_Rest_bend [] := T.F_Rest_bend.bindsN fun _ _ _ _ _ _ us hl => match us, hl with | [_], _ => rfl
abbrev N_Rest_written : List Str := ["self"]
abbrev P_Rest_written : List Str := ["self"]
theorem sc_Rest_written : FnScope N_Rest_written P_Rest_written (defScope sd_Rest_written) := ⟨rfl, rfl, rfl, by decide +kernel, rfl, by decide +kernel, by decide +kernel⟩
abbrev a_Rest_written (K : PySem.W.Frag) : Addr := He.fAd K ("Rest", some "written")
abbrev FF_Rest_written (K : PySem.W.Frag) : Prop := FunD K "written" "Rest.written" (defArgs sd_Rest_written) (defBody sd_Rest_written) (defScope sd_Rest_written) [] [] (a_Rest_written K) (fdAt K (a_Rest_written K))
theorem Tx.F_Rest_written (T : Tx K mg) : FF_Rest_written K := T.defF 21
abbrev O_Rest_written (P : Program) (w : World) (K : PySem.W.Frag) (mg : Str → Option Value) (base : Heap) (k : Nat) (sp : Sp) : Prop := FnOk P w K mg base CX0 k (a_Rest_written K) (fdAt K (a_Rest_written K)) P_Rest_written sp
theorem Tx.b_Rest_written (T : Tx K mg) : Binds K (fdAt K (a_Rest_written K)) P_Rest_written [] := T.F_Rest_written.bindsN fun _ _ _ _ _ _ us hl => match us, hl with | [_], _ => rfl
abbrev N_Window__after : List Str := ["self", "t"]
abbrev P_Window__after : List Str := ["self", "t"]
theorem sc_Window__after : FnScope N_Window__after P_Window__after (defScope sd_Window__after) := ⟨rfl, rfl, rfl, by decide +kernel, rfl, by decide +kernel, by decide +kernel⟩
abbrev a_Window__after (K : PySem.W.Frag) : Addr := He.fAd K ("Window", some "_after")
abbrev FF_Window__after (K : PySem.W.Frag) : Prop := FunD K "_after" "Window._after" (defArgs sd_Window__after) (defBody sd_Window__after) (defScope sd_Window__after) [] [] (a_Window__after K) (fdAt K (a_Window__after K))
theorem Tx.F_Window__after (T : Tx K mg) : FF_Window__after K := T.defF 22
abbrev O_Window__after (P : Program) (w : World) (K : PySem.W.Frag) (mg : Str → Option Value) (base : Heap) (k : Nat) (sp : Sp) : Prop := FnOk P w K mg base CX0 k (a_Window__after K) (fdAt K (a_Window__after K)) P_Window__after sp
theorem Tx.b_Window__after (T : Tx K mg) : Binds K (fdAt K (a_Window__after K)) P_Window__after [] := T.F_Window__after.bindsN fun _ _ _ _ _ _ us hl => match us, hl with | [_, _], _ => rfl
abbrev N_Days__after : List Str := ["self", "t", "border"]
abbrev P_Days__after : List Str := ["self", "t"]
theorem sc_Days__after : FnScope N_Days__after P_Days__after (defScope sd_Days__after) := ⟨rfl, rfl, rfl, by decide +kernel, rfl, by decide +kernel, by decide +kernel⟩
abbrev a_Days__after (K : PySem.W.Frag) : Addr := He.fAd K ("Days", some "_after")
abbrev FF_Days__after (K : PySem.W.Frag) : Prop := FunD K "_after" "Days._after" (defArgs sd_Days__after) (defBody sd_Days__after) (defScope sd_Days__after) [] [] (a_Days__after K) (fdAt K (a_Days__after K))
theorem Tx.F_Days__after (T : Tx K mg) : FF_Days__after K := T.defF 23
abbrev O_Days__after (P : Program) (w : World) (K : PySem.W.Frag) (mg : Str → Option Value) (base : Heap) (k : Nat) (sp : Sp) : Prop := FnOk P w K mg base CX0 k (a_Days__after K) (fdAt K (a_Days__after K)) P_Days__after sp
theorem Tx.b_Days__after (T : Tx K mg) : Binds K (fdAt K (a_Days__after K)) P_Days__after [] := T.F_Days__after.bindsN fun _ _ _ _ _ _ us hl => match us, hl with | [_, _], _ => rfl
abbrev N_joined : List Str := ["word", "first", "second", "value", "forms", "period", "bend"]
abbrev P_joined : List Str := ["word", "first", "second"]
theorem sc_joined : FnScope N_joined P_joined (defScope sd_joined) := ⟨rfl, rfl, rfl, by decide +kernel, rfl, by decide +kernel, by decide +kernel⟩
abbrev a_joined (K : PySem.W.Frag) : Addr := He.fAd K ("joined", none)
abbrev FF_joined (K : PySem.W.Frag) : Prop := FunD K "joined" "joined" (defArgs sd_joined) (defBody sd_joined) (defScope sd_joined) [] [] (a_joined K) (fdAt K (a_joined K))
theorem Tx.F_joined (T : Tx K mg) : FF_joined K := T.defF 24
abbrev O_joined (P : Program) (w : World) (K : PySem.W.Frag) (mg : Str → Option Value) (base : Heap) (k : Nat) (sp : Sp) : Prop := FnOk P w K mg base CX0 k (a_joined K) (fdAt K (a_joined K)) P_joined sp
theorem Tx.b_joined (T : Tx K mg) : Binds K (fdAt K (a_joined K)) P_joined [] := T.F_joined.bindsN fun _ _ _ _ _ _ us hl => match us, hl with | [_, _, _], _ => rfl
abbrev N_Later__after : List Str := ["self", "t"]
abbrev P_Later__after : List Str := ["self", "t"]
theorem sc_Later__after : FnScope N_Later__after P_Later__after (defScope sd_Later__after) := ⟨rfl, rfl, rfl, by decide +kernel, rfl, by decide +kernel, by decide +kernel⟩
abbrev a_Later__after (K : PySem.W.Frag) : Addr := He.fAd K ("Later", some "_after")
abbrev FF_Later__after (K : PySem.W.Frag) : Prop := FunD K "_after" "Later._after" (defArgs sd_Later__after) (defBody sd_Later__after) (defScope sd_Later__after) [] [] (a_Later__after K) (fdAt K (a_Later__after K))
theorem Tx.F_Later__after (T : Tx K mg) : FF_Later__after K := T.defF 25
abbrev O_Later__after (P : Program) (w : World) (K : PySem.W.Frag) (mg : Str → Option Value) (base : Heap) (k : Nat) (sp : Sp) : Prop := FnOk P w K mg base CX0 k (a_Later__after K) (fdAt K (a_Later__after K)) P_Later__after sp
theorem Tx.b_Later__after (T : Tx K mg) : Binds K (fdAt K (a_Later__after K)) P_Later__after [] := T.F_Later__after.bindsN fun _ _ _ _ _ _ us hl => match us, hl with | [_, _], _ => rfl
abbrev N_Sooner__after : List Str := ["self", "t"]
abbrev P_Sooner__after : List Str := ["self", "t"]
theorem sc_Sooner__after : FnScope N_Sooner__after P_Sooner__after (defScope sd_Sooner__after) := ⟨rfl, rfl, rfl, by decide +kernel, rfl, by decide +kernel, by decide +kernel⟩
abbrev a_Sooner__after (K : PySem.W.Frag) : Addr := He.fAd K ("Sooner", some "_after")
abbrev FF_Sooner__after (K : PySem.W.Frag) : Prop := FunD K "_after" "Sooner._after" (defArgs sd_Sooner__after) (defBody sd_Sooner__after) (defScope sd_Sooner__after) [] [] (a_Sooner__after K) (fdAt K (a_Sooner__after K))
theorem Tx.F_Sooner__after (T : Tx K mg) : FF_Sooner__after K := T.defF 26
abbrev O_Sooner__after (P : Program) (w : World) (K : PySem.W.Frag) (mg : Str → Option Value) (base : Heap) (k : Nat) (sp : Sp) : Prop := FnOk P w K mg base CX0 k (a_Sooner__after K) (fdAt K (a_Sooner__after K)) P_Sooner__after sp
theorem Tx.b_Sooner__after (T : Tx K mg) : Binds K (fdAt K (a_Sooner__after K)) P_Sooner__after [] := T.F_Sooner__after.bindsN fun _ _ _ _ _ _ us hl => match us, hl with | [_, _], _ => rfl
abbrev N_Next__after : List Str := ["self", "t"]
abbrev P_Next__after : List Str := ["self", "t"]
theorem sc_Next__after : FnScope N_Next__after P_Next__after (defScope sd_Next__after) := ⟨rfl, rfl, rfl, by decide +kernel, rfl, by decide +kernel, by decide +kernel⟩
abbrev a_Next__after (K : PySem.W.Frag) : Addr := He.fAd K ("Next", some "_after")
abbrev FF_Next__after (K : PySem.W.Frag) : Prop := FunD K "_after" "Next._after" (defArgs sd_Next__after) (defBody sd_Next__after) (defScope sd_Next__after) [] [] (a_Next__after K) (fdAt K (a_Next__after K))
theorem Tx.F_Next__after (T : Tx K mg) : FF_Next__after K := T.defF 27
abbrev O_Next__after (P : Program) (w : World) (K : PySem.W.Frag) (mg : Str → Option Value) (base : Heap) (k : Nat) (sp : Sp) : Prop := FnOk P w K mg base CX0 k (a_Next__after K) (fdAt K (a_Next__after K)) P_Next__after sp
theorem Tx.b_Next__after (T : Tx K mg) : Binds K (fdAt K (a_Next__after K)) P_Next__after [] := T.F_Next__after.bindsN fun _ _ _ _ _ _ us hl => match us, hl with | [_, _], _ => rfl
abbrev N__is_row : List Str := ["row", "ahead", "name", "elder", "error", "delay"]
abbrev P__is_row : List Str := ["row", "ahead"]
theorem sc__is_row : FnScope N__is_row P__is_row (defScope sd__is_row) := ⟨rfl, rfl, rfl, by decide +kernel, rfl, by decide +kernel, by decide +kernel⟩
abbrev a__is_row (K : PySem.W.Frag) : Addr := He.fAd K ("_is_row", none)
abbrev FF__is_row (K : PySem.W.Frag) : Prop := FunD K "_is_row" "_is_row" (defArgs sd__is_row) (defBody sd__is_row) (defScope sd__is_row) [] [] (a__is_row K) (fdAt K (a__is_row K))
theorem Tx.F__is_row (T : Tx K mg) : FF__is_row K := T.defF 28
abbrev O__is_row (P : Program) (w : World) (K : PySem.W.Frag) (mg : Str → Option Value) (base : Heap) (k : Nat) (sp : Sp) : Prop := FnOk P w K mg base CX0 k (a__is_row K) (fdAt K (a__is_row K)) P__is_row sp
theorem Tx.b__is_row (T : Tx K mg) : Binds K (fdAt K (a__is_row K)) P__is_row [] := T.F__is_row.bindsN fun _ _ _ _ _ _ us hl => match us, hl with | [_, _], _ => rfl
abbrev N__all_dists : List Str := ["rows", "dists", "name", "row", "line", "other", "far", "back"]
abbrev P__all_dists : List Str := ["rows"]
theorem sc__all_dists : FnScope N__all_dists P__all_dists (defScope sd__all_dists) := ⟨rfl, rfl, rfl, by decide +kernel, rfl, by decide +kernel, by decide +kernel⟩
abbrev a__all_dists (K : PySem.W.Frag) : Addr := He.fAd K ("_all_dists", none)
abbrev FF__all_dists (K : PySem.W.Frag) : Prop := FunD K "_all_dists" "_all_dists" (defArgs sd__all_dists) (defBody sd__all_dists) (defScope sd__all_dists) [] [] (a__all_dists K) (fdAt K (a__all_dists K))
theorem Tx.F__all_dists (T : Tx K mg) : FF__all_dists K := T.defF 29
abbrev O__all_dists (P : Program) (w : World) (K : PySem.W.Frag) (mg : Str → Option Value) (base : Heap) (k : Nat) (sp : Sp) : Prop := FnOk P w K mg base CX0 k (a__all_dists K) (fdAt K (a__all_dists K)) P__all_dists sp
theorem Tx.b__all_dists (T : Tx K mg) : Binds K (fdAt K (a__all_dists K)) P__all_dists [] := T.F__all_dists.bindsN fun _ _ _ _ _ _ us hl => match us, hl with | [_], _ => rfl
abbrev N__all_kappas : List Str := ["rows", "dists", "kappas", "name", "row", "line", "other", "best", "above"]
abbrev P__all_kappas : List Str := ["rows", "dists"]
theorem sc__all_kappas : FnScope N__all_kappas P__all_kappas (defScope sd__all_kappas) := ⟨rfl, rfl, rfl, by decide +kernel, rfl, by decide +kernel, by decide +kernel⟩
abbrev a__all_kappas (K : PySem.W.Frag) : Addr := He.fAd K ("_all_kappas", none)
abbrev FF__all_kappas (K : PySem.W.Frag) : Prop := FunD K "_all_kappas" "_all_kappas" (defArgs sd__all_kappas) (defBody sd__all_kappas) (defScope sd__all_kappas) [] [] (a__all_kappas K) (fdAt K (a__all_kappas K))
theorem Tx.F__all_kappas (T : Tx K mg) : FF__all_kappas K := T.defF 30
abbrev O__all_kappas (P : Program) (w : World) (K : PySem.W.Frag) (mg : Str → Option Value) (base : Heap) (k : Nat) (sp : Sp) : Prop := FnOk P w K mg base CX0 k (a__all_kappas K) (fdAt K (a__all_kappas K)) P__all_kappas sp
theorem Tx.b__all_kappas (T : Tx K mg) : Binds K (fdAt K (a__all_kappas K)) P__all_kappas [] := T.F__all_kappas.bindsN fun _ _ _ _ _ _ us hl => match us, hl with | [_, _], _ => rfl
abbrev N_Net___init__ : List Str := ["self", "rest", "rows", "known", "at", "row"]
abbrev P_Net___init__ : List Str := ["self", "rest", "rows"]
theorem sc_Net___init__ : FnScope N_Net___init__ P_Net___init__ (defScope sd_Net___init__) := ⟨rfl, rfl, rfl, by decide +kernel, rfl, by decide +kernel, by decide +kernel⟩
abbrev a_Net___init__ (K : PySem.W.Frag) : Addr := He.fAd K ("Net", some "__init__")
abbrev FF_Net___init__ (K : PySem.W.Frag) : Prop := FunD K "__init__" "Net.__init__" (defArgs sd_Net___init__) (defBody sd_Net___init__) (defScope sd_Net___init__) [] [] (a_Net___init__ K) (fdAt K (a_Net___init__ K))
theorem Tx.F_Net___init__ (T : Tx K mg) : FF_Net___init__ K := T.defF 31
abbrev O_Net___init__ (P : Program) (w : World) (K : PySem.W.Frag) (mg : Str → Option Value) (base : Heap) (k : Nat) (sp : Sp) : Prop := FnOk P w K mg base CX0 k (a_Net___init__ K) (fdAt K (a_Net___init__ K)) P_Net___init__ sp
abbrev N_Net__row : List Str := ["self", "name"]
abbrev P_Net__row : List Str := ["self", "name"]
theorem sc_Net__row : FnScope N_Net__row P_Net__row (defScope sd_Net__row) := ⟨rfl, rfl, rfl, by decide +kernel, rfl, by decide +kernel, by decide +kernel⟩
abbrev a_Net__row (K : PySem.W.Frag) : Addr := He.fAd K ("Net", some "_row")
abbrev FF_Net__row (K : PySem.W.Frag) : Prop := FunD K "_row" "Net._row" (defArgs sd_Net__row) (defBody sd_Net__row) (defScope sd_Net__row) [] [] (a_Net__row K) (fdAt K (a_Net__row K))
theorem Tx.F_Net__row (T : Tx K mg) : FF_Net__row K := T.defF 32
abbrev O_Net__row (P : Program) (w : World) (K : PySem.W.Frag) (mg : Str → Option Value) (base : Heap) (k : Nat) (sp : Sp) : Prop := FnOk P w K mg base CX0 k (a_Net__row K) (fdAt K (a_Net__row K)) P_Net__row sp
theorem Tx.b_Net__row (T : Tx K mg) : Binds K (fdAt K (a_Net__row K)) P_Net__row [] := T.F_Net__row.bindsN fun _ _ _ _ _ _ us hl => match us, hl with | [_, _], _ => rfl
abbrev N_Net_names : List Str := ["self"]
abbrev P_Net_names : List Str := ["self"]
theorem sc_Net_names : FnScope N_Net_names P_Net_names (defScope sd_Net_names) := ⟨rfl, rfl, rfl, by decide +kernel, rfl, by decide +kernel, by decide +kernel⟩
abbrev a_Net_names (K : PySem.W.Frag) : Addr := He.fAd K ("Net", some "names")
abbrev FF_Net_names (K : PySem.W.Frag) : Prop := FunD K "names" "Net.names" (defArgs sd_Net_names) (defBody sd_Net_names) (defScope sd_Net_names) [] [] (a_Net_names K) (fdAt K (a_Net_names K))
theorem Tx.F_Net_names (T : Tx K mg) : FF_Net_names K := T.defF 33
abbrev O_Net_names (P : Program) (w : World) (K : PySem.W.Frag) (mg : Str → Option Value) (base : Heap) (k : Nat) (sp : Sp) : Prop := FnOk P w K mg base CX0 k (a_Net_names K) (fdAt K (a_Net_names K)) P_Net_names sp
theorem Tx.b_Net_names (T : Tx K mg) : Binds K (fdAt K (a_Net_names K)) P_Net_names [] := T.F_Net_names.bindsN fun _ _ _ _ _ _ us hl => match us, hl with | [_], _ => rfl
abbrev N_Net_error_of : List Str := ["self", "name"]
abbrev P_Net_error_of : List Str := ["self", "name"]
theorem sc_Net_error_of : FnScope N_Net_error_of P_Net_error_of (defScope sd_Net_error_of) := ⟨rfl, rfl, rfl, by decide +kernel, rfl, by decide +kernel, by decide +kernel⟩
abbrev a_Net_error_of (K : PySem.W.Frag) : Addr := He.fAd K ("Net", some "error_of")
abbrev FF_Net_error_of (K : PySem.W.Frag) : Prop := FunD K "error_of" "Net.error_of" (defArgs sd_Net_error_of) (defBody sd_Net_error_of) (defScope sd_Net_error_of) [] [] (a_Net_error_of K) (fdAt K (a_Net_error_of K))
theorem Tx.F_Net_error_of (T : Tx K mg) : FF_Net_error_of K := T.defF 34
abbrev O_Net_error_of (P : Program) (w : World) (K : PySem.W.Frag) (mg : Str → Option Value) (base : Heap) (k : Nat) (sp : Sp) : Prop := FnOk P w K mg base CX0 k (a_Net_error_of K) (fdAt K (a_Net_error_of K)) P_Net_error_of sp
theorem Tx.b_Net_error_of (T : Tx K mg) : Binds K (fdAt K (a_Net_error_of K)) P_Net_error_of [] := T.F_Net_error_of.bindsN fun _ _ _ _ _ _ us hl => match us, hl with | [_, _], _ => rfl
abbrev N_Net_dist : List Str := ["self", "name", "other"]
abbrev P_Net_dist : List Str := ["self", "name", "other"]
theorem sc_Net_dist : FnScope N_Net_dist P_Net_dist (defScope sd_Net_dist) := ⟨rfl, rfl, rfl, by decide +kernel, rfl, by decide +kernel, by decide +kernel⟩
abbrev a_Net_dist (K : PySem.W.Frag) : Addr := He.fAd K ("Net", some "dist")
abbrev FF_Net_dist (K : PySem.W.Frag) : Prop := FunD K "dist" "Net.dist" (defArgs sd_Net_dist) (defBody sd_Net_dist) (defScope sd_Net_dist) [] [] (a_Net_dist K) (fdAt K (a_Net_dist K))
theorem Tx.F_Net_dist (T : Tx K mg) : FF_Net_dist K := T.defF 35
abbrev O_Net_dist (P : Program) (w : World) (K : PySem.W.Frag) (mg : Str → Option Value) (base : Heap) (k : Nat) (sp : Sp) : Prop := FnOk P w K mg base CX0 k (a_Net_dist K) (fdAt K (a_Net_dist K)) P_Net_dist sp
theorem Tx.b_Net_dist (T : Tx K mg) : Binds K (fdAt K (a_Net_dist K)) P_Net_dist [] := T.F_Net_dist.bindsN fun _ _ _ _ _ _ us hl => match us, hl with | [_, _, _], _ => rfl
abbrev N_Net_kappa : List Str := ["self", "name", "other"]
abbrev P_Net_kappa : List Str := ["self", "name", "other"]
theorem sc_Net_kappa : FnScope N_Net_kappa P_Net_kappa (defScope sd_Net_kappa) := ⟨rfl, rfl, rfl, by decide +kernel, rfl, by decide +kernel, by decide +kernel⟩
abbrev a_Net_kappa (K : PySem.W.Frag) : Addr := He.fAd K ("Net", some "kappa")
abbrev FF_Net_kappa (K : PySem.W.Frag) : Prop := FunD K "kappa" "Net.kappa" (defArgs sd_Net_kappa) (defBody sd_Net_kappa) (defScope sd_Net_kappa) [] [] (a_Net_kappa K) (fdAt K (a_Net_kappa K))
theorem Tx.F_Net_kappa (T : Tx K mg) : FF_Net_kappa K := T.defF 36
abbrev O_Net_kappa (P : Program) (w : World) (K : PySem.W.Frag) (mg : Str → Option Value) (base : Heap) (k : Nat) (sp : Sp) : Prop := FnOk P w K mg base CX0 k (a_Net_kappa K) (fdAt K (a_Net_kappa K)) P_Net_kappa sp
theorem Tx.b_Net_kappa (T : Tx K mg) : Binds K (fdAt K (a_Net_kappa K)) P_Net_kappa [] := T.F_Net_kappa.bindsN fun _ _ _ _ _ _ us hl => match us, hl with | [_, _, _], _ => rfl
abbrev N__law_box : List Str := ["_law_script", "_law_cells", "_law_cell"]
abbrev P__law_box : List Str := ["_law_script"]
theorem sc__law_box : FnScope N__law_box P__law_box (defScope sd__law_box) := ⟨rfl, rfl, rfl, by decide +kernel, rfl, by decide +kernel, by decide +kernel⟩
abbrev a__law_box (K : PySem.W.Frag) : Addr := He.fAd K ("_law_box", none)
abbrev FF__law_box (K : PySem.W.Frag) : Prop := FunD K "_law_box" "_law_box" (defArgs sd__law_box) (defBody sd__law_box) (defScope sd__law_box) [] [] (a__law_box K) (fdAt K (a__law_box K))
theorem Tx.F__law_box (T : Tx K mg) : FF__law_box K := T.defF 37
abbrev O__law_box (P : Program) (w : World) (K : PySem.W.Frag) (mg : Str → Option Value) (base : Heap) (k : Nat) (sp : Sp) : Prop := FnOk P w K mg base CX0 k (a__law_box K) (fdAt K (a__law_box K)) P__law_box sp
theorem Tx.b__law_box (T : Tx K mg) : Binds K (fdAt K (a__law_box K)) P__law_box [] := T.F__law_box.bindsN fun _ _ _ _ _ _ us hl => match us, hl with | [_], _ => rfl
abbrev N__law_take : List Str := ["_law_box_here", "_law_many", "_law_cells", "_law_at", "_law_turn", "_law_cell"]
abbrev P__law_take : List Str := ["_law_box_here", "_law_many"]
theorem sc__law_take : FnScope N__law_take P__law_take (defScope sd__law_take) := ⟨rfl, rfl, rfl, by decide +kernel, rfl, by decide +kernel, by decide +kernel⟩
abbrev a__law_take (K : PySem.W.Frag) : Addr := He.fAd K ("_law_take", none)
abbrev FF__law_take (K : PySem.W.Frag) : Prop := FunD K "_law_take" "_law_take" (defArgs sd__law_take) (defBody sd__law_take) (defScope sd__law_take) [] [] (a__law_take K) (fdAt K (a__law_take K))
theorem Tx.F__law_take (T : Tx K mg) : FF__law_take K := T.defF 38
abbrev O__law_take (P : Program) (w : World) (K : PySem.W.Frag) (mg : Str → Option Value) (base : Heap) (k : Nat) (sp : Sp) : Prop := FnOk P w K mg base CX0 k (a__law_take K) (fdAt K (a__law_take K)) P__law_take sp
theorem Tx.b__law_take (T : Tx K mg) : Binds K (fdAt K (a__law_take K)) P__law_take [] := T.F__law_take.bindsN fun _ _ _ _ _ _ us hl => match us, hl with | [_, _], _ => rfl
abbrev N__law_plain_form : List Str := ["_law_box_here", "_law_borders", "_law_k"]
abbrev P__law_plain_form : List Str := ["_law_box_here"]
theorem sc__law_plain_form : FnScope N__law_plain_form P__law_plain_form (defScope sd__law_plain_form) := ⟨rfl, rfl, rfl, by decide +kernel, rfl, by decide +kernel, by decide +kernel⟩
abbrev a__law_plain_form (K : PySem.W.Frag) : Addr := He.fAd K ("_law_plain_form", none)
abbrev FF__law_plain_form (K : PySem.W.Frag) : Prop := FunD K "_law_plain_form" "_law_plain_form" (defArgs sd__law_plain_form) (defBody sd__law_plain_form) (defScope sd__law_plain_form) [] [] (a__law_plain_form K) (fdAt K (a__law_plain_form K))
theorem Tx.F__law_plain_form (T : Tx K mg) : FF__law_plain_form K := T.defF 39
abbrev O__law_plain_form (P : Program) (w : World) (K : PySem.W.Frag) (mg : Str → Option Value) (base : Heap) (k : Nat) (sp : Sp) : Prop := FnOk P w K mg base CX0 k (a__law_plain_form K) (fdAt K (a__law_plain_form K)) P__law_plain_form sp
theorem Tx.b__law_plain_form (T : Tx K mg) : Binds K (fdAt K (a__law_plain_form K)) P__law_plain_form [] := T.F__law_plain_form.bindsN fun _ _ _ _ _ _ us hl => match us, hl with | [_], _ => rfl
abbrev N__law_form : List Str := ["_law_box_here", "_law_word", "_law_first"]
abbrev P__law_form : List Str := ["_law_box_here"]
theorem sc__law_form : FnScope N__law_form P__law_form (defScope sd__law_form) := ⟨rfl, rfl, rfl, by decide +kernel, rfl, by decide +kernel, by decide +kernel⟩
abbrev a__law_form (K : PySem.W.Frag) : Addr := He.fAd K ("_law_form", none)
abbrev FF__law_form (K : PySem.W.Frag) : Prop := FunD K "_law_form" "_law_form" (defArgs sd__law_form) (defBody sd__law_form) (defScope sd__law_form) [] [] (a__law_form K) (fdAt K (a__law_form K))
theorem Tx.F__law_form (T : Tx K mg) : FF__law_form K := T.defF 40
abbrev O__law_form (P : Program) (w : World) (K : PySem.W.Frag) (mg : Str → Option Value) (base : Heap) (k : Nat) (sp : Sp) : Prop := FnOk P w K mg base CX0 k (a__law_form K) (fdAt K (a__law_form K)) P__law_form sp
theorem Tx.b__law_form (T : Tx K mg) : Binds K (fdAt K (a__law_form K)) P__law_form [] := T.F__law_form.bindsN fun _ _ _ _ _ _ us hl => match us, hl with | [_], _ => rfl
abbrev N__law_after : List Str := ["_law_form_here", "_law_t", "_law_border", "_law_start", "_law_one"]
abbrev P__law_after : List Str := ["_law_form_here", "_law_t"]
theorem sc__law_after : FnScope N__law_after P__law_after (defScope sd__law_after) := ⟨rfl, rfl, rfl, by decide +kernel, rfl, by decide +kernel, by decide +kernel⟩
abbrev a__law_after (K : PySem.W.Frag) : Addr := He.fAd K ("_law_after", none)
abbrev FF__law_after (K : PySem.W.Frag) : Prop := FunD K "_law_after" "_law_after" (defArgs sd__law_after) (defBody sd__law_after) (defScope sd__law_after) [] [] (a__law_after K) (fdAt K (a__law_after K))
theorem Tx.F__law_after (T : Tx K mg) : FF__law_after K := T.defF 41
abbrev O__law_after (P : Program) (w : World) (K : PySem.W.Frag) (mg : Str → Option Value) (base : Heap) (k : Nat) (sp : Sp) : Prop := FnOk P w K mg base CX0 k (a__law_after K) (fdAt K (a__law_after K)) P__law_after sp
theorem Tx.b__law_after (T : Tx K mg) : Binds K (fdAt K (a__law_after K)) P__law_after [] := T.F__law_after.bindsN fun _ _ _ _ _ _ us hl => match us, hl with | [_, _], _ => rfl
abbrev N__law_made : List Str := ["_law_form_here"]
abbrev P__law_made : List Str := ["_law_form_here"]
theorem sc__law_made : FnScope N__law_made P__law_made (defScope sd__law_made) := ⟨rfl, rfl, rfl, by decide +kernel, rfl, by decide +kernel, by decide +kernel⟩
abbrev a__law_made (K : PySem.W.Frag) : Addr := He.fAd K ("_law_made", none)
abbrev FF__law_made (K : PySem.W.Frag) : Prop := FunD K "_law_made" "_law_made" (defArgs sd__law_made) (defBody sd__law_made) (defScope sd__law_made) [] [] (a__law_made K) (fdAt K (a__law_made K))
theorem Tx.F__law_made (T : Tx K mg) : FF__law_made K := T.defF 42
abbrev O__law_made (P : Program) (w : World) (K : PySem.W.Frag) (mg : Str → Option Value) (base : Heap) (k : Nat) (sp : Sp) : Prop := FnOk P w K mg base CX0 k (a__law_made K) (fdAt K (a__law_made K)) P__law_made sp
theorem Tx.b__law_made (T : Tx K mg) : Binds K (fdAt K (a__law_made K)) P__law_made [] := T.F__law_made.bindsN fun _ _ _ _ _ _ us hl => match us, hl with | [_], _ => rfl
abbrev N__law_rows : List Str := ["_law_box_here", "_law_size", "_law_errors_here", "_law_delays", "_law_names", "_law_shift", "_law_rows_here", "_law_k", "_law_above"]
abbrev P__law_rows : List Str := ["_law_box_here", "_law_size", "_law_errors_here", "_law_delays"]
theorem sc__law_rows : FnScope N__law_rows P__law_rows (defScope sd__law_rows) := ⟨rfl, rfl, rfl, by decide +kernel, rfl, by decide +kernel, by decide +kernel⟩
abbrev a__law_rows (K : PySem.W.Frag) : Addr := He.fAd K ("_law_rows", none)
abbrev FF__law_rows (K : PySem.W.Frag) : Prop := FunD K "_law_rows" "_law_rows" (defArgs sd__law_rows) (defBody sd__law_rows) (defScope sd__law_rows) [] [] (a__law_rows K) (fdAt K (a__law_rows K))
theorem Tx.F__law_rows (T : Tx K mg) : FF__law_rows K := T.defF 43
abbrev O__law_rows (P : Program) (w : World) (K : PySem.W.Frag) (mg : Str → Option Value) (base : Heap) (k : Nat) (sp : Sp) : Prop := FnOk P w K mg base CX0 k (a__law_rows K) (fdAt K (a__law_rows K)) P__law_rows sp
theorem Tx.b__law_rows (T : Tx K mg) : Binds K (fdAt K (a__law_rows K)) P__law_rows [] := T.F__law_rows.bindsN fun _ _ _ _ _ _ us hl => match us, hl with | [_, _, _, _], _ => rfl
abbrev N__law_net : List Str := ["_law_rows_here", "_law_form_here", "_law_own"]
abbrev P__law_net : List Str := ["_law_rows_here", "_law_form_here"]
theorem sc__law_net : FnScope N__law_net P__law_net (defScope sd__law_net) := ⟨rfl, rfl, rfl, by decide +kernel, rfl, by decide +kernel, by decide +kernel⟩
abbrev a__law_net (K : PySem.W.Frag) : Addr := He.fAd K ("_law_net", none)
abbrev FF__law_net (K : PySem.W.Frag) : Prop := FunD K "_law_net" "_law_net" (defArgs sd__law_net) (defBody sd__law_net) (defScope sd__law_net) [] [] (a__law_net K) (fdAt K (a__law_net K))
theorem Tx.F__law_net (T : Tx K mg) : FF__law_net K := T.defF 44
abbrev O__law_net (P : Program) (w : World) (K : PySem.W.Frag) (mg : Str → Option Value) (base : Heap) (k : Nat) (sp : Sp) : Prop := FnOk P w K mg base CX0 k (a__law_net K) (fdAt K (a__law_net K)) P__law_net sp
theorem Tx.b__law_net (T : Tx K mg) : Binds K (fdAt K (a__law_net K)) P__law_net [] := T.F__law_net.bindsN fun _ _ _ _ _ _ us hl => match us, hl with | [_, _], _ => rfl
abbrev N__law_row : List Str := ["_law_rows_here", "_law_spot", "_law_row_here"]
abbrev P__law_row : List Str := ["_law_rows_here", "_law_spot"]
theorem sc__law_row : FnScope N__law_row P__law_row (defScope sd__law_row) := ⟨rfl, rfl, rfl, by decide +kernel, rfl, by decide +kernel, by decide +kernel⟩
abbrev a__law_row (K : PySem.W.Frag) : Addr := He.fAd K ("_law_row", none)
abbrev FF__law_row (K : PySem.W.Frag) : Prop := FunD K "_law_row" "_law_row" (defArgs sd__law_row) (defBody sd__law_row) (defScope sd__law_row) [] [] (a__law_row K) (fdAt K (a__law_row K))
theorem Tx.F__law_row (T : Tx K mg) : FF__law_row K := T.defF 45
abbrev O__law_row (P : Program) (w : World) (K : PySem.W.Frag) (mg : Str → Option Value) (base : Heap) (k : Nat) (sp : Sp) : Prop := FnOk P w K mg base CX0 k (a__law_row K) (fdAt K (a__law_row K)) P__law_row sp
theorem Tx.b__law_row (T : Tx K mg) : Binds K (fdAt K (a__law_row K)) P__law_row [] := T.F__law_row.bindsN fun _ _ _ _ _ _ us hl => match us, hl with | [_, _], _ => rfl
abbrev N__law_line : List Str := ["_law_rows_here", "_law_spot", "_law_line_here", "_law_row_here"]
abbrev P__law_line : List Str := ["_law_rows_here", "_law_spot"]
theorem sc__law_line : FnScope N__law_line P__law_line (defScope sd__law_line) := ⟨rfl, rfl, rfl, by decide +kernel, rfl, by decide +kernel, by decide +kernel⟩
abbrev a__law_line (K : PySem.W.Frag) : Addr := He.fAd K ("_law_line", none)
abbrev FF__law_line (K : PySem.W.Frag) : Prop := FunD K "_law_line" "_law_line" (defArgs sd__law_line) (defBody sd__law_line) (defScope sd__law_line) [] [] (a__law_line K) (fdAt K (a__law_line K))
theorem Tx.F__law_line (T : Tx K mg) : FF__law_line K := T.defF 46
abbrev O__law_line (P : Program) (w : World) (K : PySem.W.Frag) (mg : Str → Option Value) (base : Heap) (k : Nat) (sp : Sp) : Prop := FnOk P w K mg base CX0 k (a__law_line K) (fdAt K (a__law_line K)) P__law_line sp
theorem Tx.b__law_line (T : Tx K mg) : Binds K (fdAt K (a__law_line K)) P__law_line [] := T.F__law_line.bindsN fun _ _ _ _ _ _ us hl => match us, hl with | [_, _], _ => rfl
abbrev N__law_far : List Str := ["_law_rows_here", "_law_one", "_law_two", "_law_first", "_law_second", "_law_edges", "_law_spot"]
abbrev P__law_far : List Str := ["_law_rows_here", "_law_one", "_law_two"]
theorem sc__law_far : FnScope N__law_far P__law_far (defScope sd__law_far) := ⟨rfl, rfl, rfl, by decide +kernel, rfl, by decide +kernel, by decide +kernel⟩
abbrev a__law_far (K : PySem.W.Frag) : Addr := He.fAd K ("_law_far", none)
abbrev FF__law_far (K : PySem.W.Frag) : Prop := FunD K "_law_far" "_law_far" (defArgs sd__law_far) (defBody sd__law_far) (defScope sd__law_far) [] [] (a__law_far K) (fdAt K (a__law_far K))
theorem Tx.F__law_far (T : Tx K mg) : FF__law_far K := T.defF 47
abbrev O__law_far (P : Program) (w : World) (K : PySem.W.Frag) (mg : Str → Option Value) (base : Heap) (k : Nat) (sp : Sp) : Prop := FnOk P w K mg base CX0 k (a__law_far K) (fdAt K (a__law_far K)) P__law_far sp
theorem Tx.b__law_far (T : Tx K mg) : Binds K (fdAt K (a__law_far K)) P__law_far [] := T.F__law_far.bindsN fun _ _ _ _ _ _ us hl => match us, hl with | [_, _, _], _ => rfl
abbrev N__law_gap : List Str := ["_law_rows_here", "_law_one", "_law_two", "_law_best", "_law_spot", "_law_size"]
abbrev P__law_gap : List Str := ["_law_rows_here", "_law_one", "_law_two"]
theorem sc__law_gap : FnScope N__law_gap P__law_gap (defScope sd__law_gap) := ⟨rfl, rfl, rfl, by decide +kernel, rfl, by decide +kernel, by decide +kernel⟩
abbrev a__law_gap (K : PySem.W.Frag) : Addr := He.fAd K ("_law_gap", none)
abbrev FF__law_gap (K : PySem.W.Frag) : Prop := FunD K "_law_gap" "_law_gap" (defArgs sd__law_gap) (defBody sd__law_gap) (defScope sd__law_gap) [] [] (a__law_gap K) (fdAt K (a__law_gap K))
theorem Tx.F__law_gap (T : Tx K mg) : FF__law_gap K := T.defF 48
abbrev O__law_gap (P : Program) (w : World) (K : PySem.W.Frag) (mg : Str → Option Value) (base : Heap) (k : Nat) (sp : Sp) : Prop := FnOk P w K mg base CX0 k (a__law_gap K) (fdAt K (a__law_gap K)) P__law_gap sp
theorem Tx.b__law_gap (T : Tx K mg) : Binds K (fdAt K (a__law_gap K)) P__law_gap [] := T.F__law_gap.bindsN fun _ _ _ _ _ _ us hl => match us, hl with | [_, _, _], _ => rfl
abbrev N__law_gaps : List Str := ["_law_rows_here", "_law_gaps_here", "_law_one", "_law_two"]
abbrev P__law_gaps : List Str := ["_law_rows_here"]
theorem sc__law_gaps : FnScope N__law_gaps P__law_gaps (defScope sd__law_gaps) := ⟨rfl, rfl, rfl, by decide +kernel, rfl, by decide +kernel, by decide +kernel⟩
abbrev a__law_gaps (K : PySem.W.Frag) : Addr := He.fAd K ("_law_gaps", none)
abbrev FF__law_gaps (K : PySem.W.Frag) : Prop := FunD K "_law_gaps" "_law_gaps" (defArgs sd__law_gaps) (defBody sd__law_gaps) (defScope sd__law_gaps) [] [] (a__law_gaps K) (fdAt K (a__law_gaps K))
theorem Tx.F__law_gaps (T : Tx K mg) : FF__law_gaps K := T.defF 49
abbrev O__law_gaps (P : Program) (w : World) (K : PySem.W.Frag) (mg : Str → Option Value) (base : Heap) (k : Nat) (sp : Sp) : Prop := FnOk P w K mg base CX0 k (a__law_gaps K) (fdAt K (a__law_gaps K)) P__law_gaps sp
theorem Tx.b__law_gaps (T : Tx K mg) : Binds K (fdAt K (a__law_gaps K)) P__law_gaps [] := T.F__law_gaps.bindsN fun _ _ _ _ _ _ us hl => match us, hl with | [_], _ => rfl
abbrev N__law_errors : List Str := ["_law_rows_here", "_law_found", "_law_row_here"]
abbrev P__law_errors : List Str := ["_law_rows_here"]
theorem sc__law_errors : FnScope N__law_errors P__law_errors (defScope sd__law_errors) := ⟨rfl, rfl, rfl, by decide +kernel, rfl, by decide +kernel, by decide +kernel⟩
abbrev a__law_errors (K : PySem.W.Frag) : Addr := He.fAd K ("_law_errors", none)
abbrev FF__law_errors (K : PySem.W.Frag) : Prop := FunD K "_law_errors" "_law_errors" (defArgs sd__law_errors) (defBody sd__law_errors) (defScope sd__law_errors) [] [] (a__law_errors K) (fdAt K (a__law_errors K))
theorem Tx.F__law_errors (T : Tx K mg) : FF__law_errors K := T.defF 50
abbrev O__law_errors (P : Program) (w : World) (K : PySem.W.Frag) (mg : Str → Option Value) (base : Heap) (k : Nat) (sp : Sp) : Prop := FnOk P w K mg base CX0 k (a__law_errors K) (fdAt K (a__law_errors K)) P__law_errors sp
theorem Tx.b__law_errors (T : Tx K mg) : Binds K (fdAt K (a__law_errors K)) P__law_errors [] := T.F__law_errors.bindsN fun _ _ _ _ _ _ us hl => match us, hl with | [_], _ => rfl
abbrev N__law_lead : List Str := ["_law_gaps_here", "_law_errors_here", "_law_form_here", "_law_one", "_law_two"]
abbrev P__law_lead : List Str := ["_law_gaps_here", "_law_errors_here", "_law_form_here", "_law_one", "_law_two"]
theorem sc__law_lead : FnScope N__law_lead P__law_lead (defScope sd__law_lead) := ⟨rfl, rfl, rfl, by decide +kernel, rfl, by decide +kernel, by decide +kernel⟩
abbrev a__law_lead (K : PySem.W.Frag) : Addr := He.fAd K ("_law_lead", none)
abbrev FF__law_lead (K : PySem.W.Frag) : Prop := FunD K "_law_lead" "_law_lead" (defArgs sd__law_lead) (defBody sd__law_lead) (defScope sd__law_lead) [] [] (a__law_lead K) (fdAt K (a__law_lead K))
theorem Tx.F__law_lead (T : Tx K mg) : FF__law_lead K := T.defF 51
abbrev O__law_lead (P : Program) (w : World) (K : PySem.W.Frag) (mg : Str → Option Value) (base : Heap) (k : Nat) (sp : Sp) : Prop := FnOk P w K mg base CX0 k (a__law_lead K) (fdAt K (a__law_lead K)) P__law_lead sp
theorem Tx.b__law_lead (T : Tx K mg) : Binds K (fdAt K (a__law_lead K)) P__law_lead [] := T.F__law_lead.bindsN fun _ _ _ _ _ _ us hl => match us, hl with | [_, _, _, _, _], _ => rfl
abbrev N__law_least : List Str := ["_law_rows_here", "_law_spot"]
abbrev P__law_least : List Str := ["_law_rows_here", "_law_spot"]
theorem sc__law_least : FnScope N__law_least P__law_least (defScope sd__law_least) := ⟨rfl, rfl, rfl, by decide +kernel, rfl, by decide +kernel, by decide +kernel⟩
abbrev a__law_least (K : PySem.W.Frag) : Addr := He.fAd K ("_law_least", none)
abbrev FF__law_least (K : PySem.W.Frag) : Prop := FunD K "_law_least" "_law_least" (defArgs sd__law_least) (defBody sd__law_least) (defScope sd__law_least) [] [] (a__law_least K) (fdAt K (a__law_least K))
theorem Tx.F__law_least (T : Tx K mg) : FF__law_least K := T.defF 52
abbrev O__law_least (P : Program) (w : World) (K : PySem.W.Frag) (mg : Str → Option Value) (base : Heap) (k : Nat) (sp : Sp) : Prop := FnOk P w K mg base CX0 k (a__law_least K) (fdAt K (a__law_least K)) P__law_least sp
theorem Tx.b__law_least (T : Tx K mg) : Binds K (fdAt K (a__law_least K)) P__law_least [] := T.F__law_least.bindsN fun _ _ _ _ _ _ us hl => match us, hl with | [_, _], _ => rfl
abbrev N__law_booked : List Str := ["_law_box_here", "_law_rows_here", "_law_form_here", "_law_many", "_law_room", "_law_gaps_here", "_law_errors_here", "_law_demands", "_law_k", "_law_spot", "_law_reading", "_law_one", "_law_edge"]
abbrev P__law_booked : List Str := ["_law_box_here", "_law_rows_here", "_law_form_here", "_law_many", "_law_room"]
theorem sc__law_booked : FnScope N__law_booked P__law_booked (defScope sd__law_booked) := ⟨rfl, rfl, rfl, by decide +kernel, rfl, by decide +kernel, by decide +kernel⟩
abbrev a__law_booked (K : PySem.W.Frag) : Addr := He.fAd K ("_law_booked", none)
abbrev FF__law_booked (K : PySem.W.Frag) : Prop := FunD K "_law_booked" "_law_booked" (defArgs sd__law_booked) (defBody sd__law_booked) (defScope sd__law_booked) [] [] (a__law_booked K) (fdAt K (a__law_booked K))
theorem Tx.F__law_booked (T : Tx K mg) : FF__law_booked K := T.defF 53
abbrev O__law_booked (P : Program) (w : World) (K : PySem.W.Frag) (mg : Str → Option Value) (base : Heap) (k : Nat) (sp : Sp) : Prop := FnOk P w K mg base CX0 k (a__law_booked K) (fdAt K (a__law_booked K)) P__law_booked sp
theorem Tx.b__law_booked (T : Tx K mg) : Binds K (fdAt K (a__law_booked K)) P__law_booked [] := T.F__law_booked.bindsN fun _ _ _ _ _ _ us hl => match us, hl with | [_, _, _, _, _], _ => rfl
abbrev N__law_number : List Str := ["_law_value"]
abbrev P__law_number : List Str := ["_law_value"]
theorem sc__law_number : FnScope N__law_number P__law_number (defScope sd__law_number) := ⟨rfl, rfl, rfl, by decide +kernel, rfl, by decide +kernel, by decide +kernel⟩
abbrev a__law_number (K : PySem.W.Frag) : Addr := He.fAd K ("_law_number", none)
abbrev FF__law_number (K : PySem.W.Frag) : Prop := FunD K "_law_number" "_law_number" (defArgs sd__law_number) (defBody sd__law_number) (defScope sd__law_number) [] [] (a__law_number K) (fdAt K (a__law_number K))
theorem Tx.F__law_number (T : Tx K mg) : FF__law_number K := T.defF 54
abbrev O__law_number (P : Program) (w : World) (K : PySem.W.Frag) (mg : Str → Option Value) (base : Heap) (k : Nat) (sp : Sp) : Prop := FnOk P w K mg base CX0 k (a__law_number K) (fdAt K (a__law_number K)) P__law_number sp
theorem Tx.b__law_number (T : Tx K mg) : Binds K (fdAt K (a__law_number K)) P__law_number [] := T.F__law_number.bindsN fun _ _ _ _ _ _ us hl => match us, hl with | [_], _ => rfl
abbrev N__law_lines_good : List Str := ["_law_lead_here", "_law_lines", "_law_many", "_law_met", "_law_line_here", "_law_k", "_law_one", "_law_two"]
abbrev P__law_lines_good : List Str := ["_law_lead_here", "_law_lines", "_law_many"]
theorem sc__law_lines_good : FnScope N__law_lines_good P__law_lines_good (defScope sd__law_lines_good) := ⟨rfl, rfl, rfl, by decide +kernel, rfl, by decide +kernel, by decide +kernel⟩
abbrev a__law_lines_good (K : PySem.W.Frag) : Addr := He.fAd K ("_law_lines_good", none)
abbrev FF__law_lines_good (K : PySem.W.Frag) : Prop := FunD K "_law_lines_good" "_law_lines_good" (defArgs sd__law_lines_good) (defBody sd__law_lines_good) (defScope sd__law_lines_good) [] [] (a__law_lines_good K) (fdAt K (a__law_lines_good K))
theorem Tx.F__law_lines_good (T : Tx K mg) : FF__law_lines_good K := T.defF 55
abbrev O__law_lines_good (P : Program) (w : World) (K : PySem.W.Frag) (mg : Str → Option Value) (base : Heap) (k : Nat) (sp : Sp) : Prop := FnOk P w K mg base CX0 k (a__law_lines_good K) (fdAt K (a__law_lines_good K)) P__law_lines_good sp
theorem Tx.b__law_lines_good (T : Tx K mg) : Binds K (fdAt K (a__law_lines_good K)) P__law_lines_good [] := T.F__law_lines_good.bindsN fun _ _ _ _ _ _ us hl => match us, hl with | [_, _, _], _ => rfl
abbrev N__law_apart : List Str := ["_law_lead_here", "_law_row_here", "_law_many", "_law_one", "_law_k", "_law_two"]
abbrev P__law_apart : List Str := ["_law_lead_here", "_law_row_here", "_law_many"]
theorem sc__law_apart : FnScope N__law_apart P__law_apart (defScope sd__law_apart) := ⟨rfl, rfl, rfl, by decide +kernel, rfl, by decide +kernel, by decide +kernel⟩
abbrev a__law_apart (K : PySem.W.Frag) : Addr := He.fAd K ("_law_apart", none)
abbrev FF__law_apart (K : PySem.W.Frag) : Prop := FunD K "_law_apart" "_law_apart" (defArgs sd__law_apart) (defBody sd__law_apart) (defScope sd__law_apart) [] [] (a__law_apart K) (fdAt K (a__law_apart K))
theorem Tx.F__law_apart (T : Tx K mg) : FF__law_apart K := T.defF 56
abbrev O__law_apart (P : Program) (w : World) (K : PySem.W.Frag) (mg : Str → Option Value) (base : Heap) (k : Nat) (sp : Sp) : Prop := FnOk P w K mg base CX0 k (a__law_apart K) (fdAt K (a__law_apart K)) P__law_apart sp
theorem Tx.b__law_apart (T : Tx K mg) : Binds K (fdAt K (a__law_apart K)) P__law_apart [] := T.F__law_apart.bindsN fun _ _ _ _ _ _ us hl => match us, hl with | [_, _, _], _ => rfl
abbrev N__law_greatest : List Str := ["_law_lead_here", "_law_many", "_law_found", "_law_k", "_law_more", "_law_row_here", "_law_j"]
abbrev P__law_greatest : List Str := ["_law_lead_here", "_law_many"]
theorem sc__law_greatest : FnScope N__law_greatest P__law_greatest (defScope sd__law_greatest) := ⟨rfl, rfl, rfl, by decide +kernel, rfl, by decide +kernel, by decide +kernel⟩
abbrev a__law_greatest (K : PySem.W.Frag) : Addr := He.fAd K ("_law_greatest", none)
abbrev FF__law_greatest (K : PySem.W.Frag) : Prop := FunD K "_law_greatest" "_law_greatest" (defArgs sd__law_greatest) (defBody sd__law_greatest) (defScope sd__law_greatest) [] [] (a__law_greatest K) (fdAt K (a__law_greatest K))
theorem Tx.F__law_greatest (T : Tx K mg) : FF__law_greatest K := T.defF 57
abbrev O__law_greatest (P : Program) (w : World) (K : PySem.W.Frag) (mg : Str → Option Value) (base : Heap) (k : Nat) (sp : Sp) : Prop := FnOk P w K mg base CX0 k (a__law_greatest K) (fdAt K (a__law_greatest K)) P__law_greatest sp
theorem Tx.b__law_greatest (T : Tx K mg) : Binds K (fdAt K (a__law_greatest K)) P__law_greatest [] := T.F__law_greatest.bindsN fun _ _ _ _ _ _ us hl => match us, hl with | [_, _], _ => rfl
abbrev N_law : List Str := ["_law_script", "_law_box_here", "_law_rows_here", "_law_form_here", "_law_net_here", "_law_many", "_law_demands", "_law_gaps_here", "_law_errors_here", "_law_lead_here", "_law_one", "_law_handed", "_law_lines", "_law_apart_here", "_law_many_lines", "_law_kept", "_law_two"]
abbrev P_law : List Str := ["_law_script"]
theorem sc_law : FnScope N_law P_law (defScope sd_law) := ⟨rfl, rfl, rfl, by decide +kernel, rfl, by decide +kernel, by decide +kernel⟩
abbrev a_law (K : PySem.W.Frag) : Addr := He.fAd K ("law", none)
abbrev FF_law (K : PySem.W.Frag) : Prop := FunD K "law" "law" (defArgs sd_law) (defBody sd_law) (defScope sd_law) [] [] (a_law K) (fdAt K (a_law K))
theorem Tx.F_law (T : Tx K mg) : FF_law K := T.defF 58
abbrev O_law (P : Program) (w : World) (K : PySem.W.Frag) (mg : Str → Option Value) (base : Heap) (k : Nat) (sp : Sp) : Prop := FnOk P w K mg base CX0 k (a_law K) (fdAt K (a_law K)) P_law sp
theorem Tx.b_law (T : Tx K mg) : Binds K (fdAt K (a_law K)) P_law [] := T.F_law.bindsN fun _ _ _ _ _ _ us hl => match us, hl with | [_], _ => rfl
end
end Wk

set_option Elab.async false
set_option linter.all false
set_option maxRecDepth 100000
set_option maxHeartbeats 2000000
/-! One lemma a reading, to be applied from the left. -/
namespace Sx
open PySem PySem.Spec PyProof.Rows L2
section
variable {K : PySem.W.Frag} {σ : L2.St} {H : Hp} {Q : VK} {QT : Bool → Hp → Prop} {QA : List V → Hp → Prop} {D : Ends} {te ta tb tc : TE} {t u : TS} {T U : TT} {tA tr : TA} {r r' : R2} {g : TG} {i : Nat} {v x y : V}
theorem ret (k : te σ H D.rt) : tRet te D σ H := k
theorem retN (k : D.rt .non H) : tRetN D σ H := k
theorem seq (k : t { D with nx := u D } σ H) : tSeq t u D σ H := k
theorem next (k : D.nx σ H) : tNext D σ H := k
theorem brk (k : D.bk σ H) : tBreak D σ H := k
theorem cont (k : D.ct σ H) : tCont D σ H := k
theorem drop (k : te σ H fun _ H1 => D.nx σ H1) : tDrop te D σ H := k
theorem asg (k : te σ H fun x H1 => g x σ H1 D.nx) : tAsg te g D σ H := k
theorem gname {Q : L2.St → Hp → Prop} (k : Q (σ.set i (some v)) H) : gName i v σ H Q := k
theorem ifS {c : TT} (k : c σ H fun b H1 => if b = true then t D σ H1 else u D σ H1) : tIfS c t u D σ H := k
theorem var (k : Q v H) (h : σ[i]? = some (some v) := by with_unfolding_all exact rfl) : tVar i σ H Q := ⟨v, h, k⟩
theorem con (k : Q v H) : tC v σ H Q := k
theorem op (k : ta σ H fun x H1 => tb σ H1 fun y H2 => r x y H2 Q) : tOp r ta tb σ H Q := k
theorem un {r : V → Hp → VK → Prop} (k : ta σ H fun x H1 => r x H1 Q) : tUn r ta σ H Q := k
theorem cb {r : List V → Hp → VK → Prop} (k : tA σ H fun vs H1 => r vs H1 Q) : tCB r tA σ H Q := k
theorem cons (k : ta σ H fun x H1 => tr σ H1 fun xs H2 => QA (x :: xs) H2) : tCons ta tr σ H QA := k
theorem nil (k : QA [] H) : tNil σ H QA := k
theorem call {sp : Sp} {E : XK} (k : tA σ H fun vs H1 => sp vs H1 Q E) : tCall sp [] E tA σ H Q := by
  have e : (fun vs (H1 : Hp) => sp (vs ++ []) H1 Q E) = fun vs H1 => sp vs H1 Q E := funext fun vs => by rw [List.append_nil]
  show tA σ H (fun vs H1 => sp (vs ++ []) H1 Q E)
  rw [e]
  exact k
theorem test (k : te σ H fun x H' => ∃ k, x = .bl k ∧ QT k H') : tTest te σ H QT := k
theorem tb_ (k : te σ H fun x H' => ∃ k, x = .bl k ∧ QT k H') : tB te σ H QT := k
theorem bl {b : Bool} {R : Bool → Prop} (k : R b) : ∃ k, V.bl b = V.bl k ∧ R k := ⟨b, rfl, k⟩
theorem and_ (k : T σ H fun c H1 => if c = true then U σ H1 QT else QT false H1) : tAnd T U σ H QT := k
theorem or_ (k : T σ H fun c H1 => if c = true then QT true H1 else U σ H1 QT) : tOr T U σ H QT := k
theorem not_ (k : T σ H fun c H1 => QT (!c) H1) : tNot T σ H QT := k
theorem andV (k : ta σ H fun x H1 => ∃ c, x = .bl c ∧ if c = true then tb σ H1 Q else Q (.bl false) H1) : tAndV ta tb σ H Q := k
theorem orV (k : ta σ H fun x H1 => ∃ c, x = .bl c ∧ if c = true then Q (.bl true) H1 else tb σ H1 Q) : tOrV ta tb σ H Q := k
theorem notV (k : ta σ H fun x H1 => ∃ c, x = .bl c ∧ Q (.bl (!c)) H1) : tNotV ta σ H Q := k
theorem ife (k : T σ H fun c H1 => if c = true then ta σ H1 Q else tb σ H1 Q) : tIf T ta tb σ H Q := k
theorem i0 {g : Int → Int → V} {a b : Int} (k : Q (g a b) H) : rI0 g (.int a) (.int b) H Q := ⟨a, b, rfl, rfl, k⟩
theorem iC {C : Int → Int → Prop} {g : Int → Int → V} {a b : Int} (h : C a b) (k : Q (g a b) H) : rI C g (.int a) (.int b) H Q := ⟨a, b, rfl, rfl, h, k⟩
theorem iU {g : Int → V} {a : Int} (k : Q (g a) H) : rU g (.int a) H Q := ⟨a, rfl, k⟩
theorem eqI {a b : Int} (k : Q (.bl (decide (a = b))) H) : rEq (.int a) (.int b) H Q := by
  refine ⟨rfl, ?_⟩
  have e : decide (V.int a = V.int b) = decide (a = b) := decide_eq_decide.mpr ⟨fun z => V.int.inj z, fun z => by rw [z]⟩
  rw [e]
  exact k
theorem eqS {a b : Str} (k : Q (.bl (decide (a = b))) H) : rEq (.str a) (.str b) H Q := by
  refine ⟨rfl, ?_⟩
  have e : decide (V.str a = V.str b) = decide (a = b) := decide_eq_decide.mpr ⟨fun z => V.str.inj z, fun z => by rw [z]⟩
  rw [e]
  exact k
theorem neI {a b : Int} (k : Q (.bl (!decide (a = b))) H) : rNe (.int a) (.int b) H Q := by
  refine ⟨rfl, ?_⟩
  have e : decide (V.int a = V.int b) = decide (a = b) := decide_eq_decide.mpr ⟨fun z => V.int.inj z, fun z => by rw [z]⟩
  rw [e]
  exact k
theorem neS {a b : Str} (k : Q (.bl (!decide (a = b))) H) : rNe (.str a) (.str b) H Q := by
  refine ⟨rfl, ?_⟩
  have e : decide (V.str a = V.str b) = decide (a = b) := decide_eq_decide.mpr ⟨fun z => V.str.inj z, fun z => by rw [z]⟩
  rw [e]
  exact k
theorem chain (k : ta σ H fun x H1 => tb σ H1 fun y H2 => r x y H2 fun z H3 => ∃ k, z = .bl k ∧ if k = true then tc σ H3 fun w H4 => r' y w H4 Q else Q (.bl false) H3) : tChain r r' ta tb tc σ H Q := k
theorem aug {ti : TIp} (k : te σ H fun y H1 => ti x y H1 fun z H2 => D.nx (σ.set i (some z)) H2) (h : σ[i]? = some (some x) := by with_unfolding_all exact rfl) : tAug i te ti D σ H := ⟨x, h, k⟩
theorem ipI' {f : Int → Int → Int} {a b : Int} (k : Q (.int (f a b)) H) : ipI f (.int a) (.int b) H Q := ⟨a, b, rfl, rfl, k⟩
theorem ifT {A B : Prop} (k : A) : if (true : Bool) = true then A else B := k
theorem ifF {A B : Prop} (k : B) : if (false : Bool) = true then A else B := k
theorem ifnF {A B : Prop} (k : A) : if (!false) = true then A else B := k
theorem ifnT {A B : Prop} (k : B) : if (!true) = true then A else B := k
theorem ifd {c A B : Prop} [Decidable c] (h1 : c → A) (h2 : ¬ c → B) : if decide c = true then A else B := by
  by_cases z : c
  · rw [decide_eq_true z]
    exact h1 z
  · rw [decide_eq_false z]
    exact h2 z
theorem dT {c A B : Prop} [Decidable c] (h : c) (k : A) : if decide c = true then A else B := by rw [if_pos (decide_eq_true h)]; exact k
theorem dF {c A B : Prop} [Decidable c] (h : ¬ c) (k : B) : if decide c = true then A else B := by rw [decide_eq_false h]; exact k
theorem ndT {c A B : Prop} [Decidable c] (h : c) (k : B) : if (!decide c) = true then A else B := by rw [decide_eq_true h]; exact k
theorem ndF {c A B : Prop} [Decidable c] (h : ¬ c) (k : A) : if (!decide c) = true then A else B := by rw [decide_eq_false h]; exact k
theorem bT {b : Bool} {A B : Prop} (h : b = true) (k : A) : if b = true then A else B := by rw [if_pos h]; exact k
theorem bF {b : Bool} {A B : Prop} (h : b = false) (k : B) : if b = true then A else B := by rw [h]; exact k
theorem nbT {b : Bool} {A B : Prop} (h : b = true) (k : B) : if (!b) = true then A else B := by rw [h]; exact k
theorem nbF {b : Bool} {A B : Prop} (h : b = false) (k : A) : if (!b) = true then A else B := by rw [h]; exact k
theorem forS {wi : TI} (k : wi σ H fun J H1 => ∃ W : Nat → Nat → L2.St → Hp → Prop, (∃ m, W 0 m σ H1) ∧ ∀ i m σ H, W i m σ H →
  (J.stop i H ∧ D.nx σ H) ∨ (J.go i H ∧ ∃ N : L2.St → Hp → Prop, (∀ σ' H', N σ' H' → ∃ m', m' < m ∧ W (i + 1) m' σ' H') ∧ ∀ x H', J.yld i H x H' → g x σ H' fun σ2 H2 => t { D with nx := N, ct := N, bk := D.nx } σ2 H2)) : tFor wi g t D σ H := k
theorem istr {R : It → Hp → Prop} (k : te σ H fun v H1 => ∃ x, v = .str x ∧ R (Its x) H1) : iStr te σ H R := k
theorem ilist {R : It → Hp → Prop} (k : te σ H fun x H1 => ∃ a, x = .ref a ∧ (∃ xs, SqL K H1 a xs) ∧ R (Itl K a) H1) : iList K te σ H R := k
theorem itup {R : It → Hp → Prop} (k : te σ H fun x H1 => ∃ a, x = .ref a ∧ (∃ xs, SqT K H1 a xs) ∧ R (Itt K a) H1) : iTup K te σ H R := k
theorem irng1 {R : It → Hp → Prop} (k : tA σ H fun vs H1 => ∃ j : Int, vs = [.int j] ∧ -(2 ^ 62) ≤ j ∧ j < 2 ^ 62 ∧ R (Itr 0 j.toNat) H1) : iRng1 tA σ H R := k
theorem irng2 {R : It → Hp → Prop} (k : tA σ H fun vs H1 => ∃ i j : Int, vs = [.int i, .int j] ∧ (-(2 ^ 62) ≤ i ∧ i < 2 ^ 62 ∧ -(2 ^ 62) ≤ j ∧ j < 2 ^ 62) ∧ R (Itr i (j - i).toNat) H1) : iRng2 tA σ H R := k
theorem ienum {R : It → Hp → Prop} (k : tA σ H fun vs H1 => ∃ a xs, vs = [.ref a] ∧ SqL K H1 a xs ∧ R (Ite K a) H1) : iEnum K tA σ H R := k
theorem izip {R : It → Hp → Prop} (k : tA σ H fun vs H1 => ∃ a b xs ys, vs = [.ref a, .ref b] ∧ SqL K H1 a xs ∧ SqL K H1 b ys ∧ R (Itz K a b) H1) : iZip K tA σ H R := k
theorem irev {R : It → Hp → Prop} (k : tA σ H fun vs H1 => ∃ (a : Addr) (xs : List V), vs = [.ref a] ∧ SqL K H1 a xs ∧ R (Itv K a xs.length) H1) : iRev K tA σ H R := k
theorem ikeys {R : It → Hp → Prop} (k : te σ H fun x H1 => ∃ d o, x = .ref d ∧ ((∃ kvs, H1 d = some (.frz o (.dK kvs)) ∧ R (Itk d o kvs) H1) ∨ ∃ kvs, H1 d = some (.frz o (.dT kvs)) ∧ R (Itkt d o kvs) H1)) : iKeys te σ H R := k
theorem ienumT {R : It → Hp → Prop} (k : tA σ H fun vs H1 => ∃ a xs, vs = [.ref a] ∧ SqT K H1 a xs ∧ R (EnT.Itet K a) H1) : EnT.iEnumT K tA σ H R := k
theorem iitems {R : It → Hp → Prop} (k : te σ H fun x H1 => ∃ d o kvs, x = .ref d ∧ H1 d = some (.frz o (.dK kvs)) ∧ R (Iti d o kvs) H1) : iItems te σ H R := k
theorem lc {wi : TI} {tt : TT} {vs : List Nat} (k : wi σ H fun J H1 => ∀ D, H1 D = none → ∃ W : Nat → Nat → Hp → Prop, (∃ m, W 0 m (upd H1 D (.lst []))) ∧ ∀ i m H, W i m H →
  (J.stop i H ∧ Q (.ref D) H) ∨ (J.go i H ∧ ∃ Nx : Hp → Prop, (∀ H', Nx H' → ∃ m', m' < m ∧ W (i + 1) m' H') ∧ ∀ x H', J.yld i H x H' → g x (wipe σ vs) H' fun σ2 H2 => wipe σ2 vs = wipe σ vs ∧ tt σ2 H2 fun b H3 =>
    if b = true then te σ2 H3 fun y H4 => ∃ acc, H4 D = some (.lst acc) ∧ acc.length < sizeLine ∧ Nx (upd H4 D (.lst (acc ++ [y]))) else Nx H3)) : tLc wi g tt te vs σ H Q := k
theorem cat {l b : Addr} {xs zs : List V} (h1 : H l = some (.lst xs)) (h2 : H b = some (.lst zs)) (hz : xs.length + zs.length ≤ 4096) (k : ∀ p, H p = none → Q (.ref p) (upd H p (.lst (xs ++ zs)))) : rCat (.ref l) (.ref b) H Q :=
  ⟨l, b, xs, zs, rfl, rfl, h1, h2, Nat.le_trans hz (by rw [sizeLine_eq]; omega), k⟩
theorem join {to : TE} (k : to σ H fun x H1 => (∃ a, x = .str a) ∧ te σ H1 fun y H2 => ∃ a p, ∃ ys : List Str, x = .str a ∧ [y] = [V.ref p] ∧ (SqL K H2 p (ys.map V.str) ∨ SqT K H2 p (ys.map V.str)) ∧ (ys.map (·.length)).sum + ys.length * a.length ≤ 16777216 ∧ Q (.str (Txt.join a ys)) H2) : Kw.tJoin K to te σ H Q := k
theorem mv {X : Cx} {n : Nat} {m : Str} (k : ta σ H fun x H1 => ∃ (a dx C f : Addr) (fs : List (Str × V)) (fd : FuncData) (ps : List Str) (sp : Sp) (k : Nat), x = .ref a ∧ H1 a = some (.ins C dx fs) ∧ fs.lookup m = none ∧ Cls X.K C ∧ Meth X.K C m f ∧
  FnOk X.prog X.w X.K X.mg X.base CX0 k f fd ps sp ∧ k ≤ n ∧ Binds X.K fd ps [] ∧ tA σ H1 fun vs H2 => sp (x :: vs) H2 Q E0) : VrX.tMethV X n m ta tA σ H Q := k
theorem cv {X : Cx} {n : Nat} (k : ta σ H fun y H1 => ∃ a, y = V.ref a ∧ tA σ H1 fun vs H2 => ∃ (C dx g : Addr) (fs : List (Str × V)) (fd : FuncData) (ps : List Str) (sp : Sp) (k : Nat), H2 a = some (.ins C dx fs) ∧ StX.CallO X.K C g ∧
  FnOk X.prog X.w X.K X.mg X.base CX0 k g fd ps sp ∧ k ≤ n ∧ Binds X.K fd ps [] ∧ sp (V.ref a :: vs) H2 Q E0) : VrX.tCallV X n ta tA σ H Q := k
theorem dinS {a : Addr} {kvs : List (Key × V)} {x : Str} {o : Option V} {R : Option V → Prop} (h : H a = some (.dK kvs)) (e : valV kvs (Sum.inr x) = o) (k : R o) : ∃ a' o, V.ref a = .ref a' ∧ DGet H a' (.str x) o ∧ R o := ⟨a, o, rfl, by rw [← e]; exact DGet.k (k := Sum.inr x) h, k⟩
theorem dinI {a : Addr} {kvs : List (Key × V)} {x : Int} {o : Option V} {R : Option V → Prop} (h : H a = some (.dK kvs)) (e : valV kvs (Sum.inl x) = o) (k : R o) : ∃ a' o, V.ref a = .ref a' ∧ DGet H a' (.int x) o ∧ R o := ⟨a, o, rfl, by rw [← e]; exact DGet.k (k := Sum.inl x) h, k⟩
theorem dgS {a : Addr} {kvs : List (Key × V)} {x : Str} {R : V → Prop} (h : H a = some (.dK kvs)) (e : valV kvs (Sum.inr x) = some v) (k : R v) : ∃ a' v, V.ref a = .ref a' ∧ DGet H a' (.str x) (some v) ∧ R v := ⟨a, v, rfl, by rw [← e]; exact DGet.k (k := Sum.inr x) h, k⟩
theorem dgI {a : Addr} {kvs : List (Key × V)} {x : Int} {R : V → Prop} (h : H a = some (.dK kvs)) (e : valV kvs (Sum.inl x) = some v) (k : R v) : ∃ a' v, V.ref a = .ref a' ∧ DGet H a' (.int x) (some v) ∧ R v := ⟨a, v, rfl, by rw [← e]; exact DGet.k (k := Sum.inl x) h, k⟩
theorem dpS {a : Addr} {kvs : List (Key × V)} {x : Str} {R : Hp → Prop} (h : H a = some (.dK kvs)) (hl : kvs.length ≤ 4096) (k : R (upd H a (.dK (putK kvs (Sum.inr x) v)))) : ∃ a' H4, V.ref a = .ref a' ∧ DPut H a' (.str x) v H4 ∧ R H4 := ⟨a, _, rfl, DPut.k (k := Sum.inr x) h (Nat.lt_of_le_of_lt hl (by rw [sizeLine_eq]; omega)), k⟩
theorem dpI {a : Addr} {kvs : List (Key × V)} {x : Int} {R : Hp → Prop} (h : H a = some (.dK kvs)) (hl : kvs.length ≤ 4096) (k : R (upd H a (.dK (putK kvs (Sum.inl x) v)))) : ∃ a' H4, V.ref a = .ref a' ∧ DPut H a' (.int x) v H4 ∧ R H4 := ⟨a, _, rfl, DPut.k (k := Sum.inl x) h (Nat.lt_of_le_of_lt hl (by rw [sizeLine_eq]; omega)), k⟩
theorem tru {QT : Bool → Hp → Prop} (k : ta σ H fun x H' => ∃ k, TruV K x H' k ∧ QT k H') : Kw.tTru K ta σ H QT := k
theorem truD {a : Addr} {kvs : List (Key × V)} {R : Bool → Prop} (h : H a = some (.dK kvs)) (k : R (!kvs.isEmpty)) : ∃ b, TruV K (.ref a) H b ∧ R b := ⟨_, .inr (.inr ⟨kvs, h, rfl⟩), k⟩
theorem truL {a : Addr} {xs : List V} {R : Bool → Prop} (h : SqL K H a xs) (k : R (!xs.isEmpty)) : ∃ b, TruV K (.ref a) H b ∧ R b := ⟨_, .inl ⟨xs, h, rfl⟩, k⟩
theorem scT {w : World} {wi : TI} {tt : TT} {vs : List Nat} (k : wi σ H fun J H1 => ∀ D, H1 D = none → ∃ W : Nat → Nat → Hp → Prop, (∃ m, W 0 m (upd H1 D (SetX.SetTO w D []))) ∧ ∀ i m H, W i m H →
  (J.stop i H ∧ Q (.ref D) H) ∨ (J.go i H ∧ ∃ Nx : Hp → Prop, (∀ H', Nx H' → ∃ m', m' < m ∧ W (i + 1) m' H') ∧ ∀ x H', J.yld i H x H' → g x (wipe σ vs) H' fun σ2 H2 => wipe σ2 vs = wipe σ vs ∧ tt σ2 H2 fun b H3 =>
    if b = true then te σ2 H3 fun y H4 => ∃ (x : Str) (l : List Str), y = .str x ∧ H4 D = some (SetX.SetTO w D l) ∧ l.length + 1 < scanBound ∧ Nx (upd H4 D (SetX.SetTO w D (x :: l))) else Nx H3)) : SetX.tScT w wi g tt te vs σ H Q := k
theorem dc2 {wi wi1 : TI} {g1 : TG} {tk tv : TE} {vs vs1 : List Nat} (k : wi σ H fun J H1 => ∀ D, H1 D = none → ∃ W : Nat → Nat → Hp → Prop, (∃ m, W 0 m (upd H1 D (.dT []))) ∧ ∀ i m H, W i m H →
  (J.stop i H ∧ Q (.ref D) H) ∨ (J.go i H ∧ ∃ Nx : Hp → Prop, (∀ H', Nx H' → ∃ m', m' < m ∧ W (i + 1) m' H') ∧ ∀ x H', J.yld i H x H' → g x (wipe σ vs) H' fun σ2 H2 => wipe σ2 vs = wipe σ vs ∧
    wi1 σ2 H2 fun J1 H4 => ∃ W1 : Nat → Nat → Hp → Prop, (∃ m, W1 0 m H4) ∧ ∀ j k H, W1 j k H →
      (J1.stop j H ∧ Nx H) ∨ (J1.go j H ∧ ∃ Nx1 : Hp → Prop, (∀ H', Nx1 H' → ∃ k', k' < k ∧ W1 (j + 1) k' H') ∧ ∀ x H', J1.yld j H x H' → g1 x (wipe σ2 vs1) H' fun σ3 H5 => wipe σ3 vs1 = wipe σ2 vs1 ∧
        tk σ3 H5 fun y H6 => tv σ3 H6 fun z H7 => ∃ kvs k b, y = .ref b ∧ H7 b = some (.tup (k.map kV)) ∧ H7 D = some (.dT kvs) ∧ kvs.length < sizeLine ∧ Nx1 (upd H7 D (.dT (putK kvs k z)))))) : Dc2.tDc2 wi g wi1 g1 tk tv vs vs1 σ H Q := k
theorem cw {P : Program} {w : World} {mg : Str → Option Value} {base : Heap} {n : Nat} (k : ta σ H fun y H1 => ∃ a, y = V.ref a ∧ tA σ H1 fun vs H2 => ∃ (C dx g : Addr) (fs : List (Str × V)) (fd : FuncData) (ps : List Str) (sp : Sp) (k : Nat), H2 a = some (.ins C dx fs) ∧ StX.CallO K C g ∧
  FnOk P w K mg base CX0 k g fd ps sp ∧ k ≤ n ∧ L2.Binds K fd ps [] ∧ sp (V.ref a :: vs) H2 Q E0) : VrX.tCallW P w K mg base n ta tA σ H Q := k
theorem js_cons {ts : List TE} {acc : Str} {Q : Str → Hp → Prop} (k : te σ H fun x H1 => ∃ y : Str, x = .str y ∧ (acc ++ y).length ≤ sizeLine ∧ tJs ts (acc ++ y) σ H1 Q) : tJs (te :: ts) acc σ H Q := k
theorem js_nil {acc : Str} {Q : Str → Hp → Prop} (k : Q acc H) : tJs [] acc σ H Q := k
theorem jst {ts : List TE} {acc y : Str} {Q : Str → Hp → Prop} (h : (acc ++ y).length ≤ sizeLine) (k : tJs ts (acc ++ y) σ H Q) : ∃ y' : Str, V.str y = .str y' ∧ (acc ++ y').length ≤ sizeLine ∧ tJs ts (acc ++ y') σ H Q := ⟨y, rfl, h, k⟩
theorem fmt (k : te σ H fun x H1 => (∃ y : Str, x = .str y ∧ y.length ≤ sizeLine ∧ Q (.str y) H1) ∨ ∃ i : Int, x = .int i ∧ i.natAbs.log2 < 1920 ∧ Q (.str (toString i)) H1) : tFmt te σ H Q := k
theorem yes (k : QT true H) : tYes σ H QT := k
theorem ifn {c A B : Prop} [Decidable c] (h1 : ¬ c → A) (h2 : c → B) : if (!decide c) = true then A else B := by
  by_cases z : c
  · rw [decide_eq_true z]
    exact h2 z
  · rw [decide_eq_false z]
    exact h1 z
theorem ifb {b : Bool} {A B : Prop} (h1 : b = true → A) (h2 : b = false → B) : if b = true then A else B := by
  cases b with
  | true => exact h1 rfl
  | false => exact h2 rfl
theorem tup (h : tA σ H fun xs H1 => xs.length ≤ sizeLine ∧ ∀ p, H1 p = none → Q (.ref p) (upd H1 p (.tup xs))) : tTup tA σ H Q := h
theorem lst (h : tA σ H fun xs H1 => xs.length ≤ sizeLine ∧ ∀ p, H1 p = none → Q (.ref p) (upd H1 p (.lst xs))) : tLst tA σ H Q := h
theorem nw {xs : List V} {R : Addr → Prop} (h : xs.length ≤ 4096) (k : ∀ p, H p = none → R p) : xs.length ≤ sizeLine ∧ ∀ p, H p = none → R p := ⟨Nat.le_trans h (by rw [sizeLine_eq]; omega), k⟩
theorem fld {f : Str} (k : ta σ H fun x H1 => ∃ a C dx fs v, x = .ref a ∧ H1 a = some (.ins C dx fs) ∧ Cls K C ∧ NoAttr K C f ∧ fs.lookup f = some v ∧ Q v H1) : tFld K ta f σ H Q := k
theorem fldA {f : Str} {a C dx : Addr} {fs : List (Str × V)} {R : V → Prop} (h : H a = some (.ins C dx fs)) (hc : Cls K C) (hn : NoAttr K C f) (hl : fs.lookup f = some v) (k : R v) : ∃ a' C dx fs v, V.ref a = .ref a' ∧ H a' = some (.ins C dx fs) ∧ Cls K C ∧ NoAttr K C f ∧ fs.lookup f = some v ∧ R v := ⟨a, C, dx, fs, v, rfl, h, hc, hn, hl, k⟩
theorem meth {C : Addr} {m : Str} {sp : Sp} {E : XK} (k : ta σ H fun x H1 => ∃ a dx fs, x = .ref a ∧ H1 a = some (.ins C dx fs) ∧ fs.lookup m = none ∧ tA σ H1 fun vs H2 => sp (x :: vs) H2 Q E) : tMeth C m sp [] E ta tA σ H Q := by
  have e : (fun x (H1 : Hp) => ∃ a dx fs, x = V.ref a ∧ H1 a = some (.ins C dx fs) ∧ fs.lookup m = none ∧ tA σ H1 fun vs H2 => sp (x :: (vs ++ [])) H2 Q E) = fun x H1 => ∃ a dx fs, x = .ref a ∧ H1 a = some (.ins C dx fs) ∧ fs.lookup m = none ∧ tA σ H1 fun vs H2 => sp (x :: vs) H2 Q E := by
    funext x H1
    simp only [List.append_nil]
  show ta σ H (fun x (H1 : Hp) => ∃ a dx fs, x = V.ref a ∧ H1 a = some (.ins C dx fs) ∧ fs.lookup m = none ∧ tA σ H1 fun vs H2 => sp (x :: (vs ++ [])) H2 Q E)
  rw [e]
  exact k
theorem methA {C a dx : Addr} {m : Str} {fs : List (Str × V)} {R : Prop} (h : H a = some (.ins C dx fs)) (hl : fs.lookup m = none) (k : R) : ∃ a' dx fs, V.ref a = .ref a' ∧ H a' = some (.ins C dx fs) ∧ fs.lookup m = none ∧ R := ⟨a, dx, fs, rfl, h, hl, k⟩
theorem ixL {p : Addr} {xs : List V} {j : Int} (h : SqL K H p xs) (e : atI xs j = some v) (k : Q v H) : rIxL K (.ref p) (.int j) H Q := ⟨p, xs, j, v, rfl, rfl, h, e, k⟩
theorem ixT {p : Addr} {xs : List V} {j : Int} (h : SqT K H p xs) (e : atI xs j = some v) (k : Q v H) : rIxT K (.ref p) (.int j) H Q := ⟨p, xs, j, v, rfl, rfl, h, e, k⟩
theorem lenL {p : Addr} {xs : List V} (h : SqL K H p xs) (k : Q (.int xs.length) H) : Kw.rLen K [.ref p] H Q := ⟨p, xs, rfl, .inl h, k⟩
theorem lenT {p : Addr} {xs : List V} (h : SqT K H p xs) (k : Q (.int xs.length) H) : Kw.rLen K [.ref p] H Q := ⟨p, xs, rfl, .inr h, k⟩
theorem app {to : TE} (k : to σ H fun x H1 => tyV K "list" x H1 ∧ tA σ H1 fun ys H2 => rAppend x ys H2 Q) : tBM K "list" rAppend to tA σ H Q := k
theorem appA {p : Addr} {xs : List V} {R : Prop} (h : H p = some (.lst xs)) (k : R) : tyV K "list" (.ref p) H ∧ R := ⟨.inl ⟨rfl, _, SqL.of h⟩, k⟩
theorem appB {p : Addr} {xs : List V} (h : H p = some (.lst xs)) (hl : xs.length ≤ 4096) (k : Q .non (upd H p (.lst (xs ++ [y])))) : rAppend (.ref p) [y] H Q := ⟨p, xs, y, rfl, rfl, h, Nat.lt_of_le_of_lt hl (by rw [sizeLine_eq]; omega), k⟩
theorem gcons {tg : TG} {ts : TGs} {vs : List V} {Q : L2.St → Hp → Prop} (k : tg v σ H fun σ' H' => ts vs σ' H' Q) : gCons tg ts (v :: vs) σ H Q := ⟨v, vs, rfl, k⟩
theorem gnil {Q : L2.St → Hp → Prop} (k : Q σ H) : gNil [] σ H Q := ⟨rfl, k⟩
theorem gtup {n : Nat} {ts : TGs} {a : Addr} {xs : List V} {Q : L2.St → Hp → Prop} (h : SqT K H a xs) (hn : xs.length = n) (k : ts xs σ H Q) : gTup K n ts (.ref a) σ H Q := ⟨a, xs, rfl, h, hn, k⟩
theorem isN (k : Q (.bl (decide (x = .non))) H) : (fun x y H (Q : VK) => y = V.non ∧ Q (.bl (decide (x = .non))) H) x .non H Q := ⟨rfl, k⟩
theorem isN' {R : Prop} (k : R) : V.non = V.non ∧ R := ⟨rfl, k⟩
theorem sfld {tv : TE} {f : Str} (k : tv σ H fun y H1 => ta σ H1 fun x H2 => ∃ a C dx fs, x = .ref a ∧ H2 a = some (.ins C dx fs) ∧ Cls K C ∧ NoAttr K C f ∧ fs.length < 1000 ∧ D.nx σ (upd H2 a (.ins C dx (putF f y fs)))) : sFld K ta tv f D σ H := k
theorem dget {td ty : TE} (k : td σ H fun x H1 => ty σ H1 fun y H2 => ∃ a v, x = .ref a ∧ DGet H2 a y (some v) ∧ Q v H2) : tDGet td ty σ H Q := k
theorem din {td ty : TE} (k : ty σ H fun y H1 => td σ H1 fun x H2 => ∃ a o, x = .ref a ∧ DGet H2 a y o ∧ Q (.bl o.isSome) H2) : tDIn ty td σ H Q := k
theorem dnin {td ty : TE} (k : ty σ H fun y H1 => td σ H1 fun x H2 => ∃ a o, x = .ref a ∧ DGet H2 a y o ∧ Q (.bl (!o.isSome)) H2) : tDNotIn ty td σ H Q := k
theorem dput {td ty tv : TE} (k : tv σ H fun v H1 => td σ H1 fun x H2 => ty σ H2 fun y H3 => ∃ a H4, x = .ref a ∧ DPut H3 a y v H4 ∧ D.nx σ H4) : sDPut td ty tv D σ H := k
end
/-! ### isinstance -/
section
variable {K : PySem.W.Frag} {H : Hp} {Q : VK}
theorem isi_int {n : Int} (k : Q (.bl true) H) : rIsi K [.int n, .ty "int"] H Q := ⟨_, _, _, _, true, rfl, .ty _, .base (.int _), kit_ty (by first | rfl | kernel_rfl), k⟩
theorem isi_intb {n : Int} (k : Q (.bl false) H) : rIsi K [.int n, .ty "bool"] H Q := ⟨_, _, _, _, false, rfl, .ty _, .base (.int _), kit_ty (by first | rfl | kernel_rfl), k⟩
theorem isi_str {n : Str} (k : Q (.bl true) H) : rIsi K [.str n, .ty "str"] H Q := ⟨_, _, _, _, true, rfl, .ty _, .base (.str _), kit_ty (by first | rfl | kernel_rfl), k⟩
theorem isiT_lst {p tp : Addr} {xs : List V} (h : H p = some (.lst xs)) (ht : H tp = some (.tup [.ty "list", .ty "tuple"])) (k : Q (.bl true) H) : rIsiT K [.ref p, .ref tp] H Q := ⟨_, tp, _, _, _, true, rfl, ht, .cons (.ty _) (.cons (.ty _) .nil), .base (.lst h), (by first | rfl | kernel_rfl), k⟩
theorem isiT_lst2 {p tp : Addr} {xs : List V} (h : H p = some (.lst xs)) (ht : H tp = some (.tup [.ty "tuple", .ty "list"])) (k : Q (.bl true) H) : rIsiT K [.ref p, .ref tp] H Q := ⟨_, tp, _, _, _, true, rfl, ht, .cons (.ty _) (.cons (.ty _) .nil), .base (.lst h), (by first | rfl | kernel_rfl), k⟩
theorem isiT_tup {p tp : Addr} {xs : List V} (h : H p = some (.tup xs)) (ht : H tp = some (.tup [.ty "list", .ty "tuple"])) (k : Q (.bl true) H) : rIsiT K [.ref p, .ref tp] H Q := ⟨_, tp, _, _, _, true, rfl, ht, .cons (.ty _) (.cons (.ty _) .nil), .base (.tup h), (by first | rfl | kernel_rfl), k⟩
theorem isi_lst {p : Addr} {xs : List V} (h : H p = some (.lst xs)) (k : Q (.bl true) H) : rIsi K [.ref p, .ty "list"] H Q := ⟨_, _, _, _, true, rfl, .ty _, .base (.lst h), kit_ty (by first | rfl | kernel_rfl), k⟩
theorem isi_tup {p : Addr} {xs : List V} (h : H p = some (.tup xs)) (k : Q (.bl true) H) : rIsi K [.ref p, .ty "tuple"] H Q := ⟨_, _, _, _, true, rfl, .ty _, .base (.tup h), kit_ty (by first | rfl | kernel_rfl), k⟩
end
/-! ### heaps -/
theorem same_new {H H' : Hp} {p : Addr} {o : HO} (s : Same H H') (n : H p = none) : Same H (upd H' p o) := fun b ob e => by
  rw [upd_ne (fun z => by rw [z, n] at e; cases e)]
  exact s b ob e
theorem same_rfl (H : Hp) : Same H H := fun _ _ e => e
theorem same_tr {A B C : Hp} (h : Same A B) (h' : Same B C) : Same A C := fun b o e => h' b o (h b o e)
theorem new_none {H H' : Hp} {p : Addr} (s : Same H H') (n : H' p = none) : H p = none := by
  cases e : H p with
  | none => rfl
  | some o =>
    rw [s _ _ e] at n
    cases n
end Sx

set_option Elab.async false
set_option linter.all false
set_option maxRecDepth 100000
set_option maxHeartbeats 2000000
namespace Wk
open PySem PySem.Spec PyProof.Rows L2 NdefX SuX Hk
local macro_rules | `(tactic| walk_at "st") => `(tactic| first
  | with_reducible refine Sx.ret ?_
  | with_reducible refine Sx.retN ?_
  | with_reducible refine Sx.seq ?_
  | with_reducible refine Sx.next ?_
  | with_reducible refine Sx.brk ?_
  | with_reducible refine Sx.cont ?_
  | with_reducible refine Sx.drop ?_
  | with_reducible refine Sx.asg ?_
  | with_reducible refine Sx.gname ?_
  | with_reducible refine Sx.ifS ?_
  | with_reducible refine Sx.var ?_
  | with_reducible refine Sx.con ?_
  | with_reducible refine Sx.op ?_
  | with_reducible refine Sx.un ?_
  | with_reducible refine Sx.cb ?_
  | with_reducible refine Sx.cons ?_
  | with_reducible refine Sx.nil ?_
  | with_reducible refine Sx.call ?_
  | with_reducible refine Sx.test ?_
  | with_reducible refine Sx.tb_ ?_
  | with_reducible refine Sx.bl ?_
  | with_reducible refine Sx.and_ ?_
  | with_reducible refine Sx.or_ ?_
  | with_reducible refine Sx.not_ ?_
  | with_reducible refine Sx.andV ?_
  | with_reducible refine Sx.orV ?_
  | with_reducible refine Sx.notV ?_
  | with_reducible refine Sx.ife ?_
  | with_reducible refine Sx.i0 ?_
  | with_reducible refine Sx.iU ?_
  | with_reducible refine Sx.eqI ?_
  | with_reducible refine Sx.eqS ?_
  | with_reducible refine Sx.neI ?_
  | with_reducible refine Sx.neS ?_
  | with_reducible refine Sx.isN' ?_
  | with_reducible refine Sx.chain ?_
  | with_reducible refine Sx.aug ?_
  | with_reducible refine Sx.ipI' ?_
  | with_reducible refine Sx.ifT ?_
  | with_reducible refine Sx.ifF ?_
  | with_reducible refine Sx.ifnF ?_
  | with_reducible refine Sx.ifnT ?_
  | with_reducible refine Sx.tup ?_
  | with_reducible refine Sx.lst ?_
  | with_reducible refine Sx.fld ?_
  | with_reducible refine Sx.sfld ?_
  | with_reducible refine Sx.meth ?_
  | with_reducible refine Sx.app ?_
  | with_reducible refine Sx.gcons ?_
  | with_reducible refine Sx.gnil ?_
  | with_reducible refine Sx.dget ?_
  | with_reducible refine Sx.din ?_
  | with_reducible refine Sx.dnin ?_
  | with_reducible refine Sx.dput ?_
  | with_reducible refine Sx.forS ?_
  | with_reducible refine Sx.ikeys ?_
  | with_reducible refine Sx.ienumT ?_
  | with_reducible refine Sx.scT ?_
  | with_reducible refine Sx.dc2 ?_
  | with_reducible refine Sx.tru ?_
  | with_reducible refine Sx.mv ?_
  | with_reducible refine Sx.cv ?_
  | with_reducible refine Sx.cw ?_
  | with_reducible refine Sx.join ?_
  | with_reducible refine Sx.lc ?_
  | with_reducible refine Sx.istr ?_
  | with_reducible refine Sx.ilist ?_
  | with_reducible refine Sx.itup ?_
  | with_reducible refine Sx.irng1 ?_
  | with_reducible refine Sx.irng2 ?_
  | with_reducible refine Sx.ienum ?_
  | with_reducible refine Sx.izip ?_
  | with_reducible refine Sx.irev ?_
  | with_reducible refine Sx.iitems ?_
  | with_reducible refine Sx.yes ?_
  | with_reducible refine Sx.js_cons ?_
  | with_reducible refine Sx.js_nil ?_
  | with_reducible refine Sx.fmt ?_
  | with_reducible refine Sx.isi_int ?_
  | with_reducible refine Sx.isi_intb ?_
  | with_reducible refine Sx.isi_str ?_)
local macro_rules | `(tactic| walk_at "go") => `(tactic| repeat walk_at "st")
local macro_rules | `(tactic| walk_at "is") => `(tactic| simp only [Option.isSome_some, Option.isSome_none, Bool.not_true, Bool.not_false])
/-! Small defs: numbers, names, rests. -/
section
variable {P : Program} {w : World} {K : PySem.W.Frag} {mg : Str → Option Value} {base : Heap}
/-! ### is_number, is_from, _law_number -/
def sp_is_number : Sp := fun vs H Q _ => ∃ n lo hi : Int, vs = [.int n, .int lo, .int hi] ∧ lo ≤ n ∧ n ≤ hi ∧ Q (.bl true) H
theorem ok_is_number (T : Tx K mg) : O_is_number P w K mg base 1 sp_is_number := by
  refine T.F_is_number.ok sc_is_number (fun vs H Q E h => ?_) (fun cdv A outer s H vs Q E hr h => ?_)
  · obtain ⟨n, lo, hi, rfl, _⟩ := h
    rfl
  · obtain ⟨n, lo, hi, rfl, h1, h2, k⟩ := h
    refine ⟨_, PSs.nox ((pss_one (ps_ret (pe_and (pe_callB (Kw.isi K) (by rfl) T.f_isinstance (by decide +kernel) (pa_cons (pv 0) (pa_cons (pe_bltn (v := .ty "int") rfl T.f_int (by decide +kernel) rfl) pa_nil))) (pe_and (pe_not (pe_callB (Kw.isi K) (by rfl) T.f_isinstance (by decide +kernel) (pa_cons (pv 0) (pa_cons (pe_bltn (v := .ty "bool") rfl T.f_bool (by decide +kernel) rfl) pa_nil)))) (pe_one (pe_chain op_le op_le (pv 1) (pv 0) (pv 2)))))))), ?_⟩
    walk_at "go"
    refine Sx.dT h1 ?_
    walk_at "go"
    rw [decide_eq_true h2]
    exact k
def sp_is_from : Sp := fun vs H Q _ => ∃ n lo : Int, vs = [.int n, .int lo] ∧ lo ≤ n ∧ Q (.bl true) H
theorem ok_is_from (T : Tx K mg) : O_is_from P w K mg base 1 sp_is_from := by
  refine T.F_is_from.ok sc_is_from (fun vs H Q E h => ?_) (fun cdv A outer s H vs Q E hr h => ?_)
  · obtain ⟨n, lo, rfl, _⟩ := h
    rfl
  · obtain ⟨n, lo, rfl, h1, k⟩ := h
    refine ⟨_, PSs.nox ((pss_one (ps_ret (pe_and (pe_callB (Kw.isi K) (by rfl) T.f_isinstance (by decide +kernel) (pa_cons (pv 0) (pa_cons (pe_bltn (v := .ty "int") rfl T.f_int (by decide +kernel) rfl) pa_nil))) (pe_and (pe_not (pe_callB (Kw.isi K) (by rfl) T.f_isinstance (by decide +kernel) (pa_cons (pv 0) (pa_cons (pe_bltn (v := .ty "bool") rfl T.f_bool (by decide +kernel) rfl) pa_nil)))) (pe_one (pe_cmpR op_ge (pv 0) (pv 1) (nomark _)))))))), ?_⟩
    walk_at "go"
    rw [decide_eq_true h1]
    exact k
def sp_law_number : Sp := fun vs H Q _ => ∃ n : Int, vs = [.int n] ∧ Q (.bl true) H
theorem ok_law_number (T : Tx K mg) : O__law_number P w K mg base 1 sp_law_number := by
  refine T.F__law_number.ok sc__law_number (fun vs H Q E h => ?_) (fun cdv A outer s H vs Q E hr h => ?_)
  · obtain ⟨n, rfl, _⟩ := h
    rfl
  · obtain ⟨n, rfl, k⟩ := h
    refine ⟨_, PSs.nox ((pss_one (ps_ret (pe_and (pe_callB (Kw.isi K) (by rfl) T.f_isinstance (by decide +kernel) (pa_cons (pv 0) (pa_cons (pe_bltn (v := .ty "int") rfl T.f_int (by decide +kernel) rfl) pa_nil))) (pe_one (pe_not (pe_callB (Kw.isi K) (by rfl) T.f_isinstance (by decide +kernel) (pa_cons (pv 0) (pa_cons (pe_bltn (v := .ty "bool") rfl T.f_bool (by decide +kernel) rfl) pa_nil))))))))), ?_⟩
    walk_at "go"
    exact k
/-! ### is_name -/
abbrev ltr : Str := "abcdefghijklmnopqrstuvwxyz"
abbrev dgt : Str := "0123456789"
/-- what is_name takes for a name -/
def nameB (x : Str) : Bool := decide (1 ≤ x.cps.size) && decide (x.cps.size ≤ 8) && (match x.cps.toList with
  | [] => false
  | c :: _ => decide (c ∈ ltr.cps.toList)) && x.cps.toList.all fun c => decide (c ∈ ltr.cps.toList) || decide (c ∈ dgt.cps.toList)
def sp_is_name : Sp := fun vs H Q _ => ∃ x : Str, vs = [.str x] ∧ nameB x = true ∧ Q (.bl true) H
theorem ok_is_name (T : Tx K mg) : O_is_name P w K mg base 1 sp_is_name := by
  refine T.F_is_name.ok sc_is_name (fun vs H Q E h => ?_) (fun cdv A outer s H vs Q E hr h => ?_)
  · obtain ⟨x, rfl, _⟩ := h
    rfl
  · obtain ⟨x, rfl, hx, k⟩ := h
    obtain ⟨t1, h_LETTERS⟩ := T.s_LETTERS
    obtain ⟨t2, h_DIGITS⟩ := T.s_DIGITS
    unfold nameB at hx
    simp only [Bool.and_eq_true, decide_eq_true_eq] at hx
    obtain ⟨⟨⟨hx1, hx2⟩, hx3⟩, hx4⟩ := hx
    have hz : x.length ≤ sizeLine := by
      have e : x.length = x.cps.size := rfl
      rw [e, sizeLine_eq]
      omega
    refine ⟨_, PSs.nox ((pss_cons (ps_if (PW.pt (pw_or (pt_not (pt_val (pe_callB (Kw.isi K) (by rfl) T.f_isinstance (by decide +kernel) (pa_cons (pv 0) (pa_cons (pe_bltn (v := .ty "str") rfl T.f_str (by decide +kernel) rfl) pa_nil))))) (pw_or (pt_not (pt_chain op_le op_le (pe_int) (pe_callB call_len_str (by rfl) T.f_len (by decide +kernel) (pa_cons (pv 0) pa_nil)) (pe_int))) (pw_or1 (pt_cmpR op_notIn_sign (pe_ix ix_str (pv 0) (pe_int) (fun _ _ => rfl)) (pe_glob (v := .str "abcdefghijklmnopqrstuvwxyz") rfl h_LETTERS ⟨_, rfl⟩) rfl))))) (pss_one (ps_ret (pe_bl))) pss_nil) (pss_cons (ps_for PassesOwn.never rfl (pi_str (pv 0)) (pg_name (i := 1) sc_is_name.nd rfl (Or.inl rfl)) (pss_one (ps_if (PW.pt (pw_and (pt_cmpR op_notIn_sign (pv 1) (pe_glob (v := .str "abcdefghijklmnopqrstuvwxyz") rfl h_LETTERS ⟨_, rfl⟩) rfl) (pw_and1 (pt_cmpR op_notIn_sign (pv 1) (pe_glob (v := .str "0123456789") rfl h_DIGITS ⟨_, rfl⟩) rfl)))) (pss_one (ps_ret (pe_bl))) pss_nil))) (pss_one (ps_ret (pe_bl)))))), ?_⟩
    walk_at "go"
    refine ⟨_, rfl, hz, ?_⟩
    walk_at "go"
    refine Sx.dT (by have : x.length = x.cps.size := rfl; omega) ?_
    walk_at "go"
    refine Sx.ndT (by have : x.length = x.cps.size := rfl; omega) ?_
    walk_at "go"
    cases hl : x.cps.toList with
    | nil =>
      rw [hl] at hx3
      cases hx3
    | cons c r =>
      rw [hl] at hx3
      refine ⟨x, 0, c, rfl, rfl, hz, by rw [hl]; exact atI_nat (j := 0) rfl, ?_⟩
      refine ⟨c, _, rfl, rfl, ?_⟩
      walk_at "go"
      refine Sx.nbT hx3 ?_
      walk_at "go"
      refine ⟨x, rfl, VrX.for_J (n := x.cps.size) (fun i σ H' => H' = H ∧ ∃ v, σ = [some (.str x), v]) ⟨rfl, _, rfl⟩ (fun _ _ _ => Nat.le_refl _) (fun i _ _ h _ => h) ?_ ?_⟩
      · rintro i y σ H1 H2 hi ⟨rfl, v, rfl⟩ ⟨rfl, d, hd, rfl⟩
        walk_at "go"
        have hm : d ∈ x.cps.toList := Array.mem_toList_iff.mpr (Array.mem_of_getElem? hd)
        have h4 := List.all_eq_true.mp hx4 d hm
        rw [Bool.or_eq_true, decide_eq_true_eq, decide_eq_true_eq] at h4
        refine ⟨d, _, rfl, rfl, ?_⟩
        walk_at "go"
        rcases h4 with h4 | h4
        · refine Sx.ndT h4 ?_
          walk_at "go"
          exact ⟨rfl, _, rfl⟩
        · refine Sx.ifn (fun _ => ?_) (fun _ => ?_)
          · walk_at "go"
            refine ⟨d, _, rfl, rfl, ?_⟩
            walk_at "go"
            refine Sx.ndT h4 ?_
            walk_at "go"
            exact ⟨rfl, _, rfl⟩
          · walk_at "go"
            exact ⟨rfl, _, rfl⟩
      · rintro σ H' ⟨rfl, v, rfl⟩
        walk_at "go"
        exact k
/-! ### rests: what stands in the heap -/
abbrev rf (tx : Str) (fo pe be : Int) : List (Str × V) := [("_text", .str tx), ("_forms", .int fo), ("_period", .int pe), ("_bend", .int be)]
/-- an instance whose class and field are known -/
structure FldAt (K : PySem.W.Frag) (H : Hp) (a : Addr) (f : Str) (v : V) : Prop where
  at_ : ∃ C dx fs, H a = some (.ins C dx fs) ∧ Cls K C ∧ NoAttr K C f ∧ fs.lookup f = some v
def sp_get (K : PySem.W.Frag) (f : Str) : Sp := fun vs H Q _ => ∃ a v, vs = [.ref a] ∧ FldAt K H a f v ∧ Q v H
theorem ok_Rest_forms (T : Tx K mg) : O_Rest_forms P w K mg base 1 (sp_get K "_forms") := by
  refine T.F_Rest_forms.ok sc_Rest_forms (fun vs H Q E h => ?_) (fun cdv A outer s H vs Q E hr h => ?_)
  · obtain ⟨n, _, rfl, _⟩ := h
    rfl
  · obtain ⟨a, v, rfl, ⟨C, dx, fs, h1, h2, h3, h4⟩, k⟩ := h
    refine ⟨_, PSs.nox ((pss_one (ps_ret (show PE _ _ (tFld K _ _) from pe_fld (pv 0) rfl)))), ?_⟩
    walk_at "go"
    exact Sx.fldA h1 h2 h3 h4 k
theorem ok_Rest_period (T : Tx K mg) : O_Rest_period P w K mg base 1 (sp_get K "_period") := by
  refine T.F_Rest_period.ok sc_Rest_period (fun vs H Q E h => ?_) (fun cdv A outer s H vs Q E hr h => ?_)
  · obtain ⟨n, _, rfl, _⟩ := h
    rfl
  · obtain ⟨a, v, rfl, ⟨C, dx, fs, h1, h2, h3, h4⟩, k⟩ := h
    refine ⟨_, PSs.nox ((pss_one (ps_ret (show PE _ _ (tFld K _ _) from pe_fld (pv 0) rfl)))), ?_⟩
    walk_at "go"
    exact Sx.fldA h1 h2 h3 h4 k
theorem ok_Rest_bend (T : Tx K mg) : O_Rest_bend P w K mg base 1 (sp_get K "_bend") := by
  refine T.F_Rest_bend.ok sc_Rest_bend (fun vs H Q E h => ?_) (fun cdv A outer s H vs Q E hr h => ?_)
  · obtain ⟨n, _, rfl, _⟩ := h
    rfl
  · obtain ⟨a, v, rfl, ⟨C, dx, fs, h1, h2, h3, h4⟩, k⟩ := h
    refine ⟨_, PSs.nox ((pss_one (ps_ret (show PE _ _ (tFld K _ _) from pe_fld (pv 0) rfl)))), ?_⟩
    walk_at "go"
    exact Sx.fldA h1 h2 h3 h4 k
theorem ok_Rest_written (T : Tx K mg) : O_Rest_written P w K mg base 1 (sp_get K "_text") := by
  refine T.F_Rest_written.ok sc_Rest_written (fun vs H Q E h => ?_) (fun cdv A outer s H vs Q E hr h => ?_)
  · obtain ⟨n, _, rfl, _⟩ := h
    rfl
  · obtain ⟨a, v, rfl, ⟨C, dx, fs, h1, h2, h3, h4⟩, k⟩ := h
    refine ⟨_, PSs.nox ((pss_one (ps_ret (show PE _ _ (tFld K _ _) from pe_fld (pv 0) rfl)))), ?_⟩
    walk_at "go"
    exact Sx.fldA h1 h2 h3 h4 k
/-- Rest.__init__ on a new instance of any class below -/
structure NewC (K : PySem.W.Frag) (C : Addr) : Prop where
  cl : Cls K C
  n1 : NoAttr K C "_text"
  n2 : NoAttr K C "_forms"
  n3 : NoAttr K C "_period"
  n4 : NoAttr K C "_bend"
def sp_Rest_init (K : PySem.W.Frag) : Sp := fun vs H Q _ => ∃ (a C dx : Addr) (tx : Str) (fo pe be : Int), vs = [.ref a, .str tx, .int fo, .int pe, .int be] ∧ H a = some (.ins C dx []) ∧ NewC K C ∧ Q .non (upd H a (.ins C dx (rf tx fo pe be)))
theorem upd_upd {H : Hp} {a : Addr} {o o' : HO} : upd (upd H a o) a o' = upd H a o' := by
  funext b
  by_cases h : b = a
  · rw [h, upd_same, upd_same]
  · rw [upd_ne h, upd_ne h, upd_ne h]
theorem ok_Rest_init (T : Tx K mg) : O_Rest___init__ P w K mg base 1 (sp_Rest_init K) := by
  refine T.F_Rest___init__.ok sc_Rest___init__ (fun vs H Q E h => ?_) (fun cdv A outer s H vs Q E hr h => ?_)
  · obtain ⟨a, C, dx, tx, fo, pe, be, rfl, _⟩ := h
    rfl
  · obtain ⟨a, C, dx, tx, fo, pe, be, rfl, h1, N, k⟩ := h
    refine ⟨_, PSs.nox ((pss_cons (show PS _ _ (sFld K _ _ _) from ps_fld (pv 0) (pv 1) rfl) (pss_cons (show PS _ _ (sFld K _ _ _) from ps_fld (pv 0) (pv 2) rfl) (pss_cons (show PS _ _ (sFld K _ _ _) from ps_fld (pv 0) (pv 3) rfl) (pss_one (show PS _ _ (sFld K _ _ _) from ps_fld (pv 0) (pv 4) rfl)))))), ?_⟩
    walk_at "go"
    refine ⟨a, C, dx, _, rfl, h1, N.cl, N.n1, (by show 0 < 1000; decide), ?_⟩
    walk_at "go"
    refine ⟨a, C, dx, _, rfl, upd_same, N.cl, N.n2, (by show 1 < 1000; decide), ?_⟩
    walk_at "go"
    refine ⟨a, C, dx, _, rfl, upd_same, N.cl, N.n3, (by show 2 < 1000; decide), ?_⟩
    walk_at "go"
    refine ⟨a, C, dx, _, rfl, upd_same, N.cl, N.n4, (by show 3 < 1000; decide), ?_⟩
    walk_at "go"
    rw [upd_upd, upd_upd, upd_upd]
    exact k
end
end Wk

set_option Elab.async false
set_option linter.all false
set_option maxRecDepth 100000
set_option maxHeartbeats 2000000
namespace Wk
open PySem PySem.Spec PyProof.Rows L2 NdefX SuX Hk
local macro_rules | `(tactic| walk_at "st") => `(tactic| first
  | with_reducible refine Sx.ret ?_
  | with_reducible refine Sx.retN ?_
  | with_reducible refine Sx.seq ?_
  | with_reducible refine Sx.next ?_
  | with_reducible refine Sx.brk ?_
  | with_reducible refine Sx.cont ?_
  | with_reducible refine Sx.drop ?_
  | with_reducible refine Sx.asg ?_
  | with_reducible refine Sx.gname ?_
  | with_reducible refine Sx.ifS ?_
  | with_reducible refine Sx.var ?_
  | with_reducible refine Sx.con ?_
  | with_reducible refine Sx.op ?_
  | with_reducible refine Sx.un ?_
  | with_reducible refine Sx.cb ?_
  | with_reducible refine Sx.cons ?_
  | with_reducible refine Sx.nil ?_
  | with_reducible refine Sx.call ?_
  | with_reducible refine Sx.test ?_
  | with_reducible refine Sx.tb_ ?_
  | with_reducible refine Sx.bl ?_
  | with_reducible refine Sx.and_ ?_
  | with_reducible refine Sx.or_ ?_
  | with_reducible refine Sx.not_ ?_
  | with_reducible refine Sx.andV ?_
  | with_reducible refine Sx.orV ?_
  | with_reducible refine Sx.notV ?_
  | with_reducible refine Sx.ife ?_
  | with_reducible refine Sx.i0 ?_
  | with_reducible refine Sx.iU ?_
  | with_reducible refine Sx.eqI ?_
  | with_reducible refine Sx.eqS ?_
  | with_reducible refine Sx.neI ?_
  | with_reducible refine Sx.neS ?_
  | with_reducible refine Sx.isN' ?_
  | with_reducible refine Sx.chain ?_
  | with_reducible refine Sx.aug ?_
  | with_reducible refine Sx.ipI' ?_
  | with_reducible refine Sx.ifT ?_
  | with_reducible refine Sx.ifF ?_
  | with_reducible refine Sx.ifnF ?_
  | with_reducible refine Sx.ifnT ?_
  | with_reducible refine Sx.tup ?_
  | with_reducible refine Sx.lst ?_
  | with_reducible refine Sx.fld ?_
  | with_reducible refine Sx.sfld ?_
  | with_reducible refine Sx.meth ?_
  | with_reducible refine Sx.app ?_
  | with_reducible refine Sx.gcons ?_
  | with_reducible refine Sx.gnil ?_
  | with_reducible refine Sx.dget ?_
  | with_reducible refine Sx.din ?_
  | with_reducible refine Sx.dnin ?_
  | with_reducible refine Sx.dput ?_
  | with_reducible refine Sx.forS ?_
  | with_reducible refine Sx.ikeys ?_
  | with_reducible refine Sx.ienumT ?_
  | with_reducible refine Sx.scT ?_
  | with_reducible refine Sx.dc2 ?_
  | with_reducible refine Sx.tru ?_
  | with_reducible refine Sx.mv ?_
  | with_reducible refine Sx.cv ?_
  | with_reducible refine Sx.cw ?_
  | with_reducible refine Sx.join ?_
  | with_reducible refine Sx.lc ?_
  | with_reducible refine Sx.istr ?_
  | with_reducible refine Sx.ilist ?_
  | with_reducible refine Sx.itup ?_
  | with_reducible refine Sx.irng1 ?_
  | with_reducible refine Sx.irng2 ?_
  | with_reducible refine Sx.ienum ?_
  | with_reducible refine Sx.izip ?_
  | with_reducible refine Sx.irev ?_
  | with_reducible refine Sx.iitems ?_
  | with_reducible refine Sx.yes ?_
  | with_reducible refine Sx.js_cons ?_
  | with_reducible refine Sx.js_nil ?_
  | with_reducible refine Sx.fmt ?_
  | with_reducible refine Sx.isi_int ?_
  | with_reducible refine Sx.isi_intb ?_
  | with_reducible refine Sx.isi_str ?_)
local macro_rules | `(tactic| walk_at "go") => `(tactic| repeat walk_at "st")
local macro_rules | `(tactic| walk_at "is") => `(tactic| simp only [Option.isSome_some, Option.isSome_none, Bool.not_true, Bool.not_false])
/-! Rests: windows, days, and two of them. -/
section
variable {P : Program} {w : World} {K : PySem.W.Frag} {mg : Str → Option Value} {base : Heap}
abbrev N_S_Window : List Str := ["self", "width", "__class__"]
abbrev P_S_Window : List Str := ["self", "width"]
theorem sc_S_Window : NScope N_S_Window P_S_Window ["__class__"] (defScope ss_Window) := nscope_by (by decide +kernel)
theorem bS_Window (T : Tx K mg) : Binds K (fdAt K (mC K "Window" "__init__")) P_S_Window [] := by
  obtain ⟨kV, doc, pm, an, ct, e⟩ := (T.S_Window (prog := R.prog) rfl).fdE
  exact .all fun us hl => by rw [e]; match us, hl with | [_, _], _ => rfl
abbrev N_S_Days : List Str := ["self", "borders", "every", "__class__", "last", "at", "border", "words"]
abbrev P_S_Days : List Str := ["self", "borders", "every"]
theorem sc_S_Days : NScope N_S_Days P_S_Days ["__class__"] (defScope ss_Days) := nscope_by (by decide +kernel)
theorem bS_Days (T : Tx K mg) : Binds K (fdAt K (mC K "Days" "__init__")) P_S_Days [] := by
  obtain ⟨kV, doc, pm, an, ct, e⟩ := (T.S_Days (prog := R.prog) rfl).fdE
  exact .all fun us hl => by rw [e]; match us, hl with | [_, _, _], _ => rfl
abbrev N_S_Later : List Str := ["self", "first", "second", "__class__", "text", "forms", "period", "bend"]
abbrev P_S_Later : List Str := ["self", "first", "second"]
theorem sc_S_Later : NScope N_S_Later P_S_Later ["__class__"] (defScope ss_Later) := nscope_by (by decide +kernel)
theorem bS_Later (T : Tx K mg) : Binds K (fdAt K (mC K "Later" "__init__")) P_S_Later [] := by
  obtain ⟨kV, doc, pm, an, ct, e⟩ := (T.S_Later (prog := R.prog) rfl).fdE
  exact .all fun us hl => by rw [e]; match us, hl with | [_, _, _], _ => rfl
abbrev N_S_Sooner : List Str := ["self", "first", "second", "__class__", "text", "forms", "period", "bend"]
abbrev P_S_Sooner : List Str := ["self", "first", "second"]
theorem sc_S_Sooner : NScope N_S_Sooner P_S_Sooner ["__class__"] (defScope ss_Sooner) := nscope_by (by decide +kernel)
theorem bS_Sooner (T : Tx K mg) : Binds K (fdAt K (mC K "Sooner" "__init__")) P_S_Sooner [] := by
  obtain ⟨kV, doc, pm, an, ct, e⟩ := (T.S_Sooner (prog := R.prog) rfl).fdE
  exact .all fun us hl => by rw [e]; match us, hl with | [_, _, _], _ => rfl
abbrev N_S_Next : List Str := ["self", "first", "second", "__class__", "text", "forms", "period", "bend"]
abbrev P_S_Next : List Str := ["self", "first", "second"]
theorem sc_S_Next : NScope N_S_Next P_S_Next ["__class__"] (defScope ss_Next) := nscope_by (by decide +kernel)
theorem bS_Next (T : Tx K mg) : Binds K (fdAt K (mC K "Next" "__init__")) P_S_Next [] := by
  obtain ⟨kV, doc, pm, an, ct, e⟩ := (T.S_Next (prog := R.prog) rfl).fdE
  exact .all fun us hl => by rw [e]; match us, hl with | [_, _, _], _ => rfl

/-- what is asked of the program's text (for super) -/
structure PF (P : Program) : Prop where
  file : P.main.file = theFile
  sup : (P.main.scope.names.lookup ("super" : Str)).isSome = false
/-! ### Window -/
abbrev wf (tx : Str) (w : Int) : List (Str × V) := [("_text", .str tx), ("_forms", .int 1), ("_period", .int 1), ("_bend", .int 0), ("width", .int w)]
abbrev df (tx : Str) (p be : Int) (b : Addr) : List (Str × V) := [("_text", .str tx), ("_forms", .int 1), ("_period", .int p), ("_bend", .int be), ("every", .int p), ("_borders", .ref b)]
theorem new_Window (T : Tx K mg) : NewC K (gC K "Window") := ⟨T.c_Window, T.n_Window__text, T.n_Window__forms, T.n_Window__period, T.n_Window__bend⟩
theorem new_Days (T : Tx K mg) : NewC K (gC K "Days") := ⟨T.c_Days, T.n_Days__text, T.n_Days__forms, T.n_Days__period, T.n_Days__bend⟩
theorem new_Later (T : Tx K mg) : NewC K (gC K "Later") := ⟨T.c_Later, T.n_Later__text, T.n_Later__forms, T.n_Later__period, T.n_Later__bend⟩
theorem new_Sooner (T : Tx K mg) : NewC K (gC K "Sooner") := ⟨T.c_Sooner, T.n_Sooner__text, T.n_Sooner__forms, T.n_Sooner__period, T.n_Sooner__bend⟩
theorem new_Next (T : Tx K mg) : NewC K (gC K "Next") := ⟨T.c_Next, T.n_Next__text, T.n_Next__forms, T.n_Next__period, T.n_Next__bend⟩
theorem num_len {i : Int} (h0 : 0 ≤ i) (h : i ≤ 100) : (Str.ofString (toString i)).length ≤ 4 := by
  have k : ∀ n : Fin 101, (Str.ofString (toString (n.val : Int))).length ≤ 4 := by decide +kernel
  have := k ⟨i.toNat, by omega⟩
  have e : ((i.toNat : Nat) : Int) = i := Int.toNat_of_nonneg h0
  rw [← e]
  exact this
theorem small_log {i : Int} (h0 : 0 ≤ i) (h : i ≤ 100) : i.natAbs.log2 < 1920 := by
  refine Nat.lt_of_le_of_lt (Nat.log2_le_self _) ?_
  omega
def sp_Window_init (K : PySem.W.Frag) : Sp := fun vs H Q _ => ∃ (a dx : Addr) (n : Int), vs = [.ref a, .int n] ∧ 1 ≤ n ∧ n ≤ 100 ∧ H a = some (.ins (gC K "Window") dx []) ∧ ∀ tx : Str, tx.length ≤ 100 → Q .non (upd H a (.ins (gC K "Window") dx (wf tx n)))
theorem ok_Window_init (T : Tx K mg) (hP : PF P) : FnOk P w K mg base CX0 2 (mC K "Window" "__init__") (fdAt K (mC K "Window" "__init__")) P_S_Window (sp_Window_init K) := by
  have G_is_number : O_is_number P w K mg base 1 sp_is_number := ok_is_number T
  have G_Rest___init__ : O_Rest___init__ P w K mg base 1 (sp_Rest_init K) := ok_Rest_init T
  refine fn_ofS (T.S_Window hP.file) sc_S_Window (fun vs H Q E h => ?_) (fun A outer s H vs Q E hr h => ?_)
  · obtain ⟨a, dx, n, rfl, _⟩ := h
    rfl
  · obtain ⟨a, dx, n, rfl, h1, h2, ha, k⟩ := h
    refine ⟨_, (psa_cons (VrX.psa_nx (ps_if (pt_not (pt_val (pe_call G_is_number (hr.mono (by decide)) rfl T.g_is_number T.F_is_number.kp T.b_is_number .nil pass0 (pa_cons (pv 1) (pa_cons (pe_int) (pa_cons (pe_int) pa_nil)))))) (pss_one (ps_never)) pss_nil)) (psa_cons (psa_super (T.S_Window hP.file) G_Rest___init__ (hr.mono (by decide)) T.b_Rest___init__ pass0 rfl T.f_super rfl (by rfl) rfl rfl rfl rfl hP.sup (pa_cons (pe_joined (.cons pe_str (.cons (pe_fmt (pv 1)) PJ.nil))) (pa_cons (pe_int) (pa_cons (pe_int) (pa_cons (pe_int) pa_nil))))) (psa_all (PSs.nox (pss_one (show PS _ _ (sFld K _ _ _) from ps_fld (pv 0) (pv 1) rfl)))))), ?_⟩
    walk_at "go"
    refine ⟨n, 1, 1000, rfl, h1, by omega, ?_⟩
    walk_at "go"
    refine ⟨a, dx, [], rfl, ha, ?_⟩
    walk_at "go"
    have e1 : (Str.empty ++ ("window " : Str)).length = 7 := by decide +kernel
    have e2 : (Str.empty ++ ("window " : Str) ++ Str.ofString (toString n)).length ≤ 11 := by
      have := num_len (by omega) h2
      rw [strLen_append, e1]
      omega
    refine Sx.jst (by rw [e1, sizeLine_eq]; omega) ?_
    walk_at "go"
    refine .inr ⟨n, rfl, small_log (by omega) h2, ?_⟩
    walk_at "go"
    refine Sx.jst (by rw [sizeLine_eq]; omega) ?_
    walk_at "go"
    refine ⟨a, gC K "Window", dx, _, 1, 1, 0, rfl, ha, new_Window T, ?_⟩
    walk_at "go"
    refine ⟨a, gC K "Window", dx, _, rfl, upd_same, T.c_Window, T.n_Window_width, (by show 4 < 1000; decide), ?_⟩
    rw [upd_upd]
    exact k _ (by omega)
/-! ### plain rests in the heap -/
def FmAt (K : PySem.W.Frag) (bad : Addr → Prop) (H : Hp) (a : Addr) : Nt.Fm → Prop
  | .win n => ∃ dx tx, tx.length ≤ 100 ∧ H a = some (.ins (gC K "Window") dx (wf tx n))
  | .days bs p => ∃ dx tx b, tx.length ≤ 100 ∧ H a = some (.ins (gC K "Days") dx (df tx p (Nt.lastB bs) b)) ∧ H b = some (.lst (bs.map V.int)) ∧ ¬ bad b
theorem FmAt.same {bad : Addr → Prop} {H H' : Hp} {a : Addr} (s : Same H H') : ∀ {f : Nt.Fm}, FmAt K bad H a f → FmAt K bad H' a f
  | .win n, h => let ⟨dx, tx, h0, h1⟩ := h; ⟨dx, tx, h0, s _ _ h1⟩
  | .days bs p, h => let ⟨dx, tx, b, h0, h1, h2, h3⟩ := h; ⟨dx, tx, b, h0, s _ _ h1, s _ _ h2, h3⟩
/-! ### _after of plain rests -/
def sp_fm (K : PySem.W.Frag) (bad : Addr → Prop) : Sp := fun vs H Q _ => ∃ (a : Addr) (t : Int) (f : Nt.Fm), vs = [.ref a, .int t] ∧ FmAt K bad H a f ∧ Nt.FmOk f ∧ Q (.int (Nt.fmAft f t)) H
def sp_win (K : PySem.W.Frag) : Sp := fun vs H Q _ => ∃ (a dx : Addr) (tx : Str) (n t : Int), vs = [.ref a, .int t] ∧ H a = some (.ins (gC K "Window") dx (wf tx n)) ∧ Q (.int (t + n)) H
theorem ok_Window_after (T : Tx K mg) : O_Window__after P w K mg base 1 (sp_win K) := by
  refine T.F_Window__after.ok sc_Window__after (fun vs H Q E h => ?_) (fun cdv A outer s H vs Q E hr h => ?_)
  · obtain ⟨a, dx, tx, n, t, rfl, _⟩ := h
    rfl
  · obtain ⟨a, dx, tx, n, t, rfl, h1, k⟩ := h
    refine ⟨_, PSs.nox ((pss_one (ps_ret (pe_op op_add (pv 1) (show PE _ _ (tFld K _ _) from pe_fld (pv 0) rfl))))), ?_⟩
    walk_at "go"
    refine Sx.fldA h1 T.c_Window T.n_Window_width (v := .int n) (by kernel_rfl) ?_
    walk_at "go"
    exact k
theorem find_at {α : Type} {q : α → Bool} {bs : List α} {i : Nat} {x : α} (hn : (bs.take i).find? q = none) (hx : bs[i]? = some x) (c : q x = true) : bs.find? q = some x := by
  obtain ⟨hi, e⟩ := List.getElem?_eq_some_iff.mp hx
  have h1 : bs.take (i + 1) = bs.take i ++ [x] := by rw [List.take_succ, hx]; rfl
  have h2 : (bs.take (i + 1) ++ bs.drop (i + 1)).find? q = some x := by
    rw [List.find?_append, h1, List.find?_append, hn]
    simp [c]
  rw [List.take_append_drop] at h2
  exact h2
def sp_days (K : PySem.W.Frag) : Sp := fun vs H Q _ => ∃ (a dx b : Addr) (tx : Str) (bs : List Int) (p t : Int), vs = [.ref a, .int t] ∧ H a = some (.ins (gC K "Days") dx (df tx p (Nt.lastB bs) b)) ∧ H b = some (.lst (bs.map V.int)) ∧ Nt.FmOk (.days bs p) ∧ Q (.int (Nt.fmAft (.days bs p) t)) H
theorem ok_Days_after (T : Tx K mg) : O_Days__after P w K mg base 1 (sp_days K) := by
  refine T.F_Days__after.ok sc_Days__after (fun vs H Q E h => ?_) (fun cdv A outer s H vs Q E hr h => ?_)
  · obtain ⟨a, dx, b, tx, bs, p, t, rfl, _⟩ := h
    rfl
  · obtain ⟨a, dx, b, tx, bs, p, t, rfl, h1, h2, ⟨o1, o2, o3, o4⟩, k⟩ := h
    refine ⟨_, PSs.nox ((pss_cons (ps_if (pt_cmpR op_lt (pv 1) (show PE _ _ (tFld K _ _) from pe_fld (pv 0) rfl) (nomark _)) (pss_one (ps_for PassesOwn.never rfl (show PI _ _ _ (iList K _) from pi_list (show PE _ _ (tFld K _ _) from pe_fld (pv 0) rfl)) (pg_name (i := 2) sc_Days__after.nd rfl (Or.inl rfl)) (pss_one (ps_if (pt_cmpR op_gt (pv 2) (pv 1) (nomark _)) (pss_one (ps_ret (pv 2))) pss_nil)))) pss_nil) (pss_one (ps_ret (pe_op op_add (show PE _ _ (tFld K _ _) from pe_fld (pv 0) rfl) (pe_op op_mul (pe_op op_add (pe_op op_fdivN (pe_op op_sub (pv 1) (show PE _ _ (tFld K _ _) from pe_fld (pv 0) rfl)) (show PE _ _ (tFld K _ _) from pe_fld (pv 0) rfl)) (pe_int)) (show PE _ _ (tFld K _ _) from pe_fld (pv 0) rfl))))))), ?_⟩
    have fbend : (df tx p (Nt.lastB bs) b).lookup ("_bend" : Str) = some (V.int (Nt.lastB bs)) := by kernel_rfl
    have fbord : (df tx p (Nt.lastB bs) b).lookup ("_borders" : Str) = some (V.ref b) := by kernel_rfl
    have fev : (df tx p (Nt.lastB bs) b).lookup ("every" : Str) = some (V.int p) := by kernel_rfl
    walk_at "go"
    refine Sx.fldA h1 T.c_Days T.n_Days__bend fbend ?_
    walk_at "go"
    have fin : bs.find? (fun c => decide (t < c)) = none → Q (.int (Nt.lastB bs + ((t - Nt.lastB bs).fdiv p + 1) * p)) H := fun hn => by
      have e : Nt.fmAft (.days bs p) t = Nt.lastB bs + ((t - Nt.lastB bs).fdiv p + 1) * p := by
        show (match bs.find? (fun c => decide (t < c)) with | some b => b | none => Nt.lastB bs + ((t - Nt.lastB bs) / p + 1) * p) = _
        rw [hn, Int.fdiv_eq_ediv_of_nonneg _ (by omega)]
      rw [← e]
      exact k
    have hp1 : CDivN (t - Nt.lastB bs) p := ⟨by omega, by omega⟩
    have hp2 : CMul ((t - Nt.lastB bs).fdiv p + 1) p := .inr ⟨by omega, by omega⟩
    refine Sx.ifd (fun c => ?_) (fun c => ?_)
    · walk_at "go"
      refine Sx.fldA h1 T.c_Days T.n_Days__borders fbord ?_
      refine ⟨b, rfl, ⟨_, SqL.of h2⟩, VrX.for_J (n := bs.length) (fun i σ H' => H' = H ∧ ∃ v, σ = [some (.ref a), some (.int t), v] ∧ (bs.take i).find? (fun c => decide (t < c)) = none) ⟨rfl, _, rfl, rfl⟩
        (fun _ _ h => ⟨_, SqL.of (h.1 ▸ h2), by simp⟩) (fun i _ _ hi h => ⟨_, V.int bs[i], SqL.of (h.1 ▸ h2), by simp [hi]⟩) ?_ ?_⟩
      · rintro i y σ H1 H2 hi ⟨rfl, v, rfl, hn⟩ ⟨rfl, hy⟩
        have hy2 := hy _ (SqL.of h2)
        rw [List.getElem?_map, List.getElem?_eq_getElem hi] at hy2
        obtain rfl : V.int bs[i] = y := Option.some.inj hy2
        walk_at "go"
        refine Sx.ifd (fun c2 => ?_) (fun c2 => ?_)
        · walk_at "go"
          have e : bs.find? (fun c => decide (t < c)) = some bs[i] := find_at hn (List.getElem?_eq_getElem hi) (decide_eq_true c2)
          have e2 : Nt.fmAft (.days bs p) t = bs[i] := by
            show (match bs.find? (fun c => decide (t < c)) with | some b => b | none => Nt.lastB bs + ((t - Nt.lastB bs) / p + 1) * p) = _
            rw [e]
          rw [e2] at k
          exact k
        · walk_at "go"
          refine ⟨rfl, _, rfl, ?_⟩
          rw [List.take_succ, List.find?_append, hn, List.getElem?_eq_getElem hi]
          simp [c2]
      · rintro σ H' ⟨rfl, v, rfl, hn⟩
        rw [List.take_length] at hn
        walk_at "go"
        refine Sx.fldA h1 T.c_Days T.n_Days__bend fbend ?_
        walk_at "go"
        refine Sx.fldA h1 T.c_Days T.n_Days__bend fbend ?_
        walk_at "go"
        refine Sx.fldA h1 T.c_Days T.n_Days_every fev ?_
        refine Sx.iC hp1 ?_
        walk_at "go"
        refine Sx.fldA h1 T.c_Days T.n_Days_every fev ?_
        refine Sx.iC hp2 ?_
        walk_at "go"
        exact fin hn
    · walk_at "go"
      refine Sx.fldA h1 T.c_Days T.n_Days__bend fbend ?_
      walk_at "go"
      refine Sx.fldA h1 T.c_Days T.n_Days__bend fbend ?_
      walk_at "go"
      refine Sx.fldA h1 T.c_Days T.n_Days_every fev ?_
      refine Sx.iC hp1 ?_
      walk_at "go"
      refine Sx.fldA h1 T.c_Days T.n_Days_every fev ?_
      refine Sx.iC hp2 ?_
      walk_at "go"
      exact fin (Nt.find_none o1 (by omega))
/-! ### Days -/
theorem last_snoc {α : Type} (l : List α) (x d : α) : (l ++ [x]).getLastD d = x := by
  rw [List.getLastD_eq_getLast?, List.getLast?_append]
  rfl
theorem asc_at : ∀ {bs : List Int} {l : Int} {i : Nat} {x : Int}, Nt.Asc l bs → bs[i]? = some x → (bs.take i).getLastD l + 1 ≤ x ∧ x ≤ 100
  | [], l, i, x, _, h => by cases h
  | b :: r, l, 0, x, h, e => by
    obtain rfl : b = x := Option.some.inj e
    exact ⟨h.1, h.2.1⟩
  | b :: r, l, i + 1, x, h, e => by
    have := asc_at (i := i) h.2.2 e
    rw [List.take_succ_cons, List.getLastD_cons]
    exact this
theorem asc_nn {bs : List Int} {i : Nat} {x : Int} (h : Nt.Asc 0 bs) (e : bs[i]? = some x) : 0 ≤ x := by
  have := Nt.Asc.gt h x (List.mem_of_getElem? e)
  omega
theorem ws_sum : ∀ {bs : List Int} {l : Int}, Nt.Asc l bs → 0 ≤ l → ((bs.map fun c => Str.ofString (toString c)).map (·.length)).sum ≤ 4 * bs.length := by
  intro bs
  induction bs with
  | nil => intro l _ _; exact Nat.zero_le _
  | cons b r ih =>
    intro l h hl
    have h1 := num_len (i := b) (by have := h.1; omega) h.2.1
    have h2 := ih h.2.2 (by have := h.1; omega)
    simp only [List.map_cons, List.sum_cons, List.length_cons]
    omega
/-- a, changed; all else as it was -/
def Stay (a : Addr) (H H' : Hp) : Prop := ∀ b o, b ≠ a → H b = some o → H' b = some o
def sp_Days_init (K : PySem.W.Frag) : Sp := fun vs H Q _ => ∃ (a dx b : Addr) (bs : List Int) (p : Int), vs = [.ref a, .ref b, .int p] ∧ H a = some (.ins (gC K "Days") dx []) ∧ H b = some (.lst (bs.map V.int)) ∧ Nt.FmOk (.days bs p) ∧
  ∀ (tx : Str) (c : Addr) (H' : Hp), tx.length ≤ 100 → Stay a H H' → H c = none → H' c = some (.lst (bs.map V.int)) → H' a = some (.ins (gC K "Days") dx (df tx p (Nt.lastB bs) c)) → Q .non H'
theorem ok_Days_init (T : Tx K mg) (hP : PF P) : FnOk P w K mg base CX0 2 (mC K "Days" "__init__") (fdAt K (mC K "Days" "__init__")) P_S_Days (sp_Days_init K) := by
  have G_is_number : O_is_number P w K mg base 1 sp_is_number := ok_is_number T
  have G_Rest___init__ : O_Rest___init__ P w K mg base 1 (sp_Rest_init K) := ok_Rest_init T
  refine fn_ofS (T.S_Days hP.file) sc_S_Days (fun vs H Q E h => ?_) (fun A outer s H vs Q E hr h => ?_)
  · obtain ⟨a, dx, b, bs, p, rfl, _⟩ := h
    rfl
  · obtain ⟨a, dx, b, bs, p, rfl, ha, hb, ⟨o1, o2, o3, o4⟩, k⟩ := h
    obtain ⟨t1, h_BORDERS⟩ := T.i_BORDERS
    refine ⟨_, (psa_cons (VrX.psa_nx (ps_if (pt_not (pt_val (pe_callB (Kw.isiT K) (by rfl) T.f_isinstance (by decide +kernel) (pa_cons (pv 1) (pa_cons (pe_tup (pa_cons (pe_bltn (v := .ty "list") rfl T.f_list (by decide +kernel) rfl) (pa_cons (pe_bltn (v := .ty "tuple") rfl T.f_tuple (by decide +kernel) rfl) pa_nil))) pa_nil))))) (pss_one (ps_never)) pss_nil)) (psa_cons (VrX.psa_nx (ps_if (pt_cmpR op_gt (pe_callB (Kw.len K) (by rfl) T.f_len (by decide +kernel) (pa_cons (pv 1) pa_nil)) (pe_glob (v := .int 12) rfl h_BORDERS ⟨_, rfl⟩) (nomark _)) (pss_one (ps_never)) pss_nil)) (psa_cons (VrX.psa_nx (ps_set (i := 4) sc_S_Days.nd rfl (Or.inl rfl) (pe_int))) (psa_cons (VrX.psa_nx (ps_for PassesOwn.never rfl (show PI _ _ _ (iEnum K _) from pi_enum (by rfl) T.f_enumerate (pa_cons (pv 1) pa_nil)) (show PG _ _ (gTup K 2 _) from pg_tup rfl (pgs_cons (pg_name (i := 5) sc_S_Days.nd rfl (Or.inl rfl)) (pgs_cons (pg_name (i := 6) sc_S_Days.nd rfl (Or.inl rfl)) pgs_nil))) (pss_cons (ps_if (pt_not (pt_val (pe_call G_is_number (hr.mono (by decide)) rfl T.g_is_number T.F_is_number.kp T.b_is_number .nil pass0 (pa_cons (pv 6) (pa_cons (pe_op op_add (pv 4) (pe_int)) (pa_cons (pe_int) pa_nil)))))) (pss_one (ps_never)) pss_nil) (pss_one (ps_set (i := 4) sc_S_Days.nd rfl (Or.inl rfl) (pv 6)))))) (psa_cons (VrX.psa_nx (ps_if (pt_not (pt_val (pe_call G_is_number (hr.mono (by decide)) rfl T.g_is_number T.F_is_number.kp T.b_is_number .nil pass0 (pa_cons (pv 2) (pa_cons (pe_int) (pa_cons (pe_int) pa_nil)))))) (pss_one (ps_never)) pss_nil)) (psa_cons (VrX.psa_nx (ps_set (i := 7) sc_S_Days.nd rfl (Or.inl rfl) (pe_op op_cat (pe_op op_cat (pe_lst (pa_cons (pe_str) pa_nil)) (pe_lc (own := [("border", 6)]) (g := gName 6) (tt := tYes) rfl sc_S_Days.nd (show PI _ _ _ (iList K _) from pi_list (pv 1)) (blkOk_by (own := [("border", 6)]) (N := N_S_Days) (sc := defScope ss_Days) (by decide +kernel)) (fun _ _ _ _ _ => (pg_name (i := 6) sc_S_Days.nd rfl (Or.inl rfl))) (fun _ _ _ _ _ => pts_nil) (fun _ _ _ _ _ => (pe_callTy call_str_int (by rfl) T.f_str (by decide +kernel) (pa_cons (pv 6) pa_nil))))) (pe_lst (pa_cons (pe_str) (pa_cons (pe_callTy call_str_int (by rfl) T.f_str (by decide +kernel) (pa_cons (pv 2) pa_nil)) pa_nil)))))) (psa_cons (psa_super (T.S_Days hP.file) G_Rest___init__ (hr.mono (by decide)) T.b_Rest___init__ pass0 rfl T.f_super rfl (by rfl) rfl rfl rfl rfl hP.sup (pa_cons (show PE _ _ (Kw.tJoin K _ _) from pe_join (pe_str) (pv 7)) (pa_cons (pe_int) (pa_cons (pv 2) (pa_cons (pv 4) pa_nil))))) (psa_all (PSs.nox (pss_cons (show PS _ _ (sFld K _ _ _) from ps_fld (pv 0) (pv 2) rfl) (pss_one (show PS _ _ (sFld K _ _ _) from ps_fld (pv 0) (pe_callTy (Kw.lst K) (by rfl) T.f_list (by decide +kernel) (pa_cons (pv 1) pa_nil)) rfl)))))))))))), ?_⟩
    walk_at "go"
    refine Sx.nw (by decide) fun p1 n1 => ?_
    walk_at "go"
    have b1 : upd H p1 (.tup [V.ty "list", V.ty "tuple"]) b = some (.lst (bs.map V.int)) := by rw [upd_ne (ne_of_none hb n1)]; exact hb
    refine Sx.isiT_lst b1 upd_same ?_
    walk_at "go"
    have s1 : Same H (upd H p1 (.tup [V.ty "list", V.ty "tuple"])) := Sx.same_new (Sx.same_rfl H) n1
    generalize upd H p1 (.tup [V.ty "list", V.ty "tuple"]) = H1 at b1 s1
    refine Sx.lenL (SqL.of b1) ?_
    walk_at "go"
    refine Sx.dF (by rw [List.length_map]; omega) ?_
    walk_at "go"
    refine ⟨b, _, rfl, SqL.of b1, VrX.for_J (n := bs.length) (fun i σ H' => Same H H' ∧ ∃ v w, σ = [some (.ref a), some (.ref b), some (.int p), some (.ref (gC K "Days")), some (.int ((bs.take i).getLastD 0)), v, w, none]) ⟨s1, _, _, rfl⟩
        (fun _ _ h => ⟨_, SqL.of (h.1 _ _ hb), by simp⟩) (fun i _ _ hi h => ⟨_, V.int bs[i], SqL.of (h.1 _ _ hb), by simp [hi]⟩) ?_ ?_⟩
    · rintro i y σ H2 H3 hi ⟨s2, v, w, rfl⟩ ⟨q, x, rfl, nq, rfl, hy⟩
      have hy2 := hy _ (SqL.of (s2 _ _ hb))
      rw [List.getElem?_map, List.getElem?_eq_getElem hi] at hy2
      obtain rfl : V.int bs[i] = x := Option.some.inj hy2
      refine Sx.gtup (SqT.of upd_same) rfl ?_
      walk_at "go"
      obtain ⟨g1, g2⟩ := asc_at o1 (List.getElem?_eq_getElem hi)
      refine ⟨_, _, _, rfl, g1, by omega, ?_⟩
      walk_at "go"
      have e : (bs.take (i + 1)).getLastD 0 = bs[i] := by
        rw [List.take_succ, List.getElem?_eq_getElem hi]
        exact last_snoc _ _ _
      rw [e]
      exact ⟨Sx.same_new s2 (Sx.new_none s2 nq), _, _, rfl⟩
    · rintro σ H2 ⟨s2, v, w, rfl⟩
      rw [List.take_length]
      walk_at "go"
      refine ⟨p, 1, 2000, rfl, o3, by omega, ?_⟩
      walk_at "go"
      refine Sx.nw (by decide) fun q1 m1 => ?_
      have s3 : Same H (upd H2 q1 (.lst [V.str "days"])) := Sx.same_new s2 (Sx.new_none s2 m1)
      have hq1 : (upd H2 q1 (.lst [V.str "days"])) q1 = some (.lst [V.str "days"]) := upd_same
      generalize upd H2 q1 (.lst [V.str "days"]) = H3 at s3 hq1
      walk_at "go"
      refine ⟨b, rfl, ⟨_, SqL.of (s3 _ _ hb)⟩, fun D nD => lc_list (xs := bs.map V.int) (fun i H' => Same H H' ∧ H' q1 = some (.lst [V.str "days"]) ∧ H' D = some (.lst ((bs.take i).map fun c => V.str (toString c)))) ⟨Sx.same_new s3 (Sx.new_none s3 nD), by rw [upd_ne (ne_of_none hq1 nD)]; exact hq1, upd_same⟩
        (fun i H' _ h => SqL.of (h.1 _ _ hb)) ?_ ?_⟩
      · rintro i x H' hx ⟨s4, hq, hD⟩
        obtain ⟨c, hc, rfl⟩ : ∃ c, bs[i]? = some c ∧ x = V.int c := by
          rw [List.getElem?_map] at hx
          cases e : bs[i]? with
          | none => rw [e] at hx; cases hx
          | some c => rw [e] at hx; exact ⟨c, rfl, (Option.some.inj hx).symm⟩
        walk_at "go"
        refine ⟨rfl, ?_⟩
        walk_at "go"
        obtain ⟨g1, g2⟩ := asc_at o1 hc
        have g0 := asc_nn o1 hc
        refine ⟨c, rfl, small_log g0 (by omega), _, hD, ?_, ?_⟩
        · rw [List.length_map, List.length_take, sizeLine_eq]
          omega
        · have nb : b ≠ D := ne_of (s4 _ _ hb) hD (by
            intro z
            have z2 : bs.map V.int = (bs.take i).map (fun c => V.str (toString c)) := HO.lst.inj z
            have : (bs.map V.int).length = ((bs.take i).map (fun c => V.str (toString c))).length := by rw [z2]
            rw [List.length_map, List.length_map, List.length_take] at this
            have := (List.getElem?_eq_some_iff.mp hc).1
            omega)
          refine ⟨?_, ?_, ?_⟩
          · exact Sx.same_new s4 (Sx.new_none s3 nD)
          · rw [upd_ne (fun z => by rw [z] at hq1; rw [hq1] at nD; cases nD)]
            exact hq
          · rw [upd_same, List.take_succ, hc, List.map_append]
            rfl
      · rintro H' ⟨s4, hq, hD⟩
        rw [List.length_map, List.take_length] at hD
        have ln : ((bs.map fun c => V.str (toString c)) : List V).length ≤ 2 := by rw [List.length_map]; exact o2
        refine Sx.cat hq hD (by show 1 + _ ≤ _; omega) fun q2 m2 => ?_
        have s5 := Sx.same_new s4 (Sx.new_none s4 m2) (o := .lst ([V.str "days"] ++ bs.map fun c => V.str (toString c)))
        have hq2 : (upd H' q2 (.lst ([V.str "days"] ++ bs.map fun c => V.str (toString c)))) q2 = _ := upd_same
        generalize upd H' q2 (.lst ([V.str "days"] ++ bs.map fun c => V.str (toString c))) = H4 at s5 hq2
        walk_at "go"
        refine ⟨p, rfl, small_log (by omega) (by omega), ?_⟩
        walk_at "go"
        refine Sx.nw (by show 2 ≤ _; decide) fun q3 m3 => ?_
        have s6 := Sx.same_new s5 (Sx.new_none s5 m3) (o := .lst [V.str "then", V.str (toString p)])
        have hq2' : (upd H4 q3 (.lst [V.str "then", V.str (toString p)])) q2 = some (.lst ([V.str "days"] ++ bs.map fun c => V.str (toString c))) := by rw [upd_ne (ne_of_none hq2 m3)]; exact hq2
        have hq3 : (upd H4 q3 (.lst [V.str "then", V.str (toString p)])) q3 = _ := upd_same
        generalize upd H4 q3 (.lst [V.str "then", V.str (toString p)]) = H5 at s6 hq2' hq3
        refine Sx.cat hq2' hq3 (by rw [List.length_append]; show 1 + _ + 2 ≤ _; omega) fun q4 m4 => ?_
        have s7 := Sx.same_new s6 (Sx.new_none s6 m4) (o := .lst (([V.str "days"] ++ bs.map fun c => V.str (toString c)) ++ [V.str "then", V.str (toString p)]))
        have hq4 : (upd H5 q4 (.lst (([V.str "days"] ++ bs.map fun c => V.str (toString c)) ++ [V.str "then", V.str (toString p)]))) q4 = _ := upd_same
        generalize upd H5 q4 (.lst (([V.str "days"] ++ bs.map fun c => V.str (toString c)) ++ [V.str "then", V.str (toString p)])) = H6 at s7 hq4
        walk_at "go"
        have ha6 := s7 _ _ ha
        have hb6 := s7 _ _ hb
        have nab : b ≠ a := ne_of hb ha (fun z => by cases z)
        refine ⟨a, dx, [], rfl, ha6, ?_⟩
        walk_at "go"
        have eys : (([V.str "days"] ++ bs.map fun c => V.str (toString c)) ++ [V.str "then", V.str (toString p)]) = (((("days" : Str) :: bs.map fun c => Str.ofString (toString c)) ++ [("then" : Str), Str.ofString (toString p)]).map V.str) := by
          simp
        have hsum := ws_sum o1 (Int.le_refl 0)
        have hsz : ((((("days" : Str) :: bs.map fun c => Str.ofString (toString c)) ++ [("then" : Str), Str.ofString (toString p)])).map (·.length)).sum ≤ 4 + 8 + 8 := by
          have e1 : ("days" : Str).length = 4 := by decide +kernel
          have e2 : ("then" : Str).length = 4 := by decide +kernel
          have e3 := num_len (i := p) (by omega) (by omega)
          simp only [List.cons_append, List.map_cons, List.map_append, List.sum_cons, List.sum_append, List.map_nil, List.sum_nil, e1, e2]
          omega
        have hln : (((("days" : Str) :: bs.map fun c => Str.ofString (toString c)) ++ [("then" : Str), Str.ofString (toString p)])).length ≤ 5 := by simp; omega
        have hsp : (" " : Str).length = 1 := by decide +kernel
        refine ⟨⟨_, rfl⟩, ?_⟩
        walk_at "go"
        refine ⟨_, q4, _, rfl, rfl, .inl (SqL.of (by rw [hq4, eys])), by rw [hsp]; omega, ?_⟩
        walk_at "go"
        have htx : (Txt.join (" " : Str) ((("days" : Str) :: bs.map fun c => Str.ofString (toString c)) ++ [("then" : Str), Str.ofString (toString p)])).length ≤ 100 := by
          rw [eq_of_beq (join_plain_closes _ _)]
          have := PySem.StrLaws.join_length_le (" " : Str) ((("days" : Str) :: bs.map fun c => Str.ofString (toString c)) ++ [("then" : Str), Str.ofString (toString p)])
          rw [hsp] at this
          omega
        generalize Txt.join (" " : Str) ((("days" : Str) :: bs.map fun c => Str.ofString (toString c)) ++ [("then" : Str), Str.ofString (toString p)]) = tx at htx
        refine ⟨a, gC K "Days", dx, tx, 1, p, bs.getLastD 0, rfl, ha6, new_Days T, ?_⟩
        walk_at "go"
        refine ⟨a, gC K "Days", dx, _, rfl, upd_same, T.c_Days, T.n_Days_every, (by show 4 < 1000; decide), ?_⟩
        rw [upd_upd]
        walk_at "go"
        refine ⟨b, _, rfl, .inl (SqL.of (by rw [upd_ne nab]; exact hb6)), fun c nc => ?_⟩
        have nac : a ≠ c := fun z => by rw [z, upd_same] at nc; cases nc
        have nc6 : H6 c = none := by rw [upd_ne nac.symm] at nc; exact nc
        walk_at "go"
        refine ⟨a, gC K "Days", dx, _, rfl, by rw [upd_ne nac, upd_same], T.c_Days, T.n_Days__borders, (by show 5 < 1000; decide), ?_⟩
        refine k tx c _ htx (fun d o hd e => ?_) (Sx.new_none s7 nc6) (by rw [upd_ne nac.symm, upd_same]) upd_same
        rw [upd_ne hd, upd_ne (fun z => by rw [z] at e; rw [s7 _ _ e] at nc6; cases nc6), upd_ne hd]
        exact s7 _ _ e
end
end Wk

set_option Elab.async false
set_option linter.all false
set_option maxRecDepth 100000
set_option maxHeartbeats 2000000
namespace Wk
open PySem PySem.Spec PyProof.Rows L2 NdefX SuX Hk
local macro_rules | `(tactic| walk_at "st") => `(tactic| first
  | with_reducible refine Sx.ret ?_
  | with_reducible refine Sx.retN ?_
  | with_reducible refine Sx.seq ?_
  | with_reducible refine Sx.next ?_
  | with_reducible refine Sx.brk ?_
  | with_reducible refine Sx.cont ?_
  | with_reducible refine Sx.drop ?_
  | with_reducible refine Sx.asg ?_
  | with_reducible refine Sx.gname ?_
  | with_reducible refine Sx.ifS ?_
  | with_reducible refine Sx.var ?_
  | with_reducible refine Sx.con ?_
  | with_reducible refine Sx.op ?_
  | with_reducible refine Sx.un ?_
  | with_reducible refine Sx.cb ?_
  | with_reducible refine Sx.cons ?_
  | with_reducible refine Sx.nil ?_
  | with_reducible refine Sx.call ?_
  | with_reducible refine Sx.test ?_
  | with_reducible refine Sx.tb_ ?_
  | with_reducible refine Sx.bl ?_
  | with_reducible refine Sx.and_ ?_
  | with_reducible refine Sx.or_ ?_
  | with_reducible refine Sx.not_ ?_
  | with_reducible refine Sx.andV ?_
  | with_reducible refine Sx.orV ?_
  | with_reducible refine Sx.notV ?_
  | with_reducible refine Sx.ife ?_
  | with_reducible refine Sx.i0 ?_
  | with_reducible refine Sx.iU ?_
  | with_reducible refine Sx.eqI ?_
  | with_reducible refine Sx.eqS ?_
  | with_reducible refine Sx.neI ?_
  | with_reducible refine Sx.neS ?_
  | with_reducible refine Sx.isN' ?_
  | with_reducible refine Sx.chain ?_
  | with_reducible refine Sx.aug ?_
  | with_reducible refine Sx.ipI' ?_
  | with_reducible refine Sx.ifT ?_
  | with_reducible refine Sx.ifF ?_
  | with_reducible refine Sx.ifnF ?_
  | with_reducible refine Sx.ifnT ?_
  | with_reducible refine Sx.tup ?_
  | with_reducible refine Sx.lst ?_
  | with_reducible refine Sx.fld ?_
  | with_reducible refine Sx.sfld ?_
  | with_reducible refine Sx.meth ?_
  | with_reducible refine Sx.app ?_
  | with_reducible refine Sx.gcons ?_
  | with_reducible refine Sx.gnil ?_
  | with_reducible refine Sx.dget ?_
  | with_reducible refine Sx.din ?_
  | with_reducible refine Sx.dnin ?_
  | with_reducible refine Sx.dput ?_
  | with_reducible refine Sx.forS ?_
  | with_reducible refine Sx.ikeys ?_
  | with_reducible refine Sx.ienumT ?_
  | with_reducible refine Sx.scT ?_
  | with_reducible refine Sx.dc2 ?_
  | with_reducible refine Sx.tru ?_
  | with_reducible refine Sx.mv ?_
  | with_reducible refine Sx.cv ?_
  | with_reducible refine Sx.cw ?_
  | with_reducible refine Sx.join ?_
  | with_reducible refine Sx.lc ?_
  | with_reducible refine Sx.istr ?_
  | with_reducible refine Sx.ilist ?_
  | with_reducible refine Sx.itup ?_
  | with_reducible refine Sx.irng1 ?_
  | with_reducible refine Sx.irng2 ?_
  | with_reducible refine Sx.ienum ?_
  | with_reducible refine Sx.izip ?_
  | with_reducible refine Sx.irev ?_
  | with_reducible refine Sx.iitems ?_
  | with_reducible refine Sx.yes ?_
  | with_reducible refine Sx.js_cons ?_
  | with_reducible refine Sx.js_nil ?_
  | with_reducible refine Sx.fmt ?_
  | with_reducible refine Sx.isi_int ?_
  | with_reducible refine Sx.isi_intb ?_
  | with_reducible refine Sx.isi_str ?_)
local macro_rules | `(tactic| walk_at "go") => `(tactic| repeat walk_at "st")
local macro_rules | `(tactic| walk_at "is") => `(tactic| simp only [Option.isSome_some, Option.isSome_none, Bool.not_true, Bool.not_false])
/-! Two rests joined. -/
section
variable {P : Program} {w : World} {K : PySem.W.Frag} {mg : Str → Option Value} {base : Heap}
/-- a method found at an object -/
def VM (K : PySem.W.Frag) (H : Hp) (a : Addr) (m : Str) (f : Addr) : Prop := ∃ C dx fs, H a = some (.ins C dx fs) ∧ fs.lookup m = none ∧ Cls K C ∧ Meth K C m f
theorem methV_of {X : Cx} {n k : Nat} {m : Str} {a f : Addr} {fd : FuncData} {ps : List Str} {sp : Sp} {t : TA} {σ : L2.St} {H : Hp} {Q : VK} (v : VM X.K H a m f) (F : FnOk X.prog X.w X.K X.mg X.base CX0 k f fd ps sp) (hk : k ≤ n) (hb : Binds X.K fd ps [])
    (q : t σ H fun vs H2 => sp (.ref a :: vs) H2 Q E0) : ∃ (a' dx C f : Addr) (fs : List (Str × V)) (fd : FuncData) (ps : List Str) (sp : Sp) (k : Nat), V.ref a = .ref a' ∧ H a' = some (.ins C dx fs) ∧ fs.lookup m = none ∧ Cls X.K C ∧ Meth X.K C m f ∧
  FnOk X.prog X.w X.K X.mg X.base CX0 k f fd ps sp ∧ k ≤ n ∧ Binds X.K fd ps [] ∧ t σ H fun vs H2 => sp (.ref a :: vs) H2 Q E0 :=
  let ⟨C, dx, fs, h1, h2, h3, h4⟩ := v
  ⟨a, dx, C, f, fs, fd, ps, sp, k, rfl, h1, h2, h3, h4, F, hk, hb, q⟩
/-- an object that isinstance takes for a Rest -/
def IsR (K : PySem.W.Frag) (H : Hp) (a : Addr) : Prop := ∃ C, TyX K H (.ref a) (.ref C) ∧ PySem.W.kitOne K (.ref C) (.ref (gC K "Rest")) = some true
structure PlOb (K : PySem.W.Frag) (H : Hp) (a : Addr) (tx : Str) (pe be : Int) : Prop where
  ht : tx.length ≤ 100
  h1 : 1 ≤ pe
  h9 : pe ≤ 9
  text : FldAt K H a "_text" (.str tx)
  forms : FldAt K H a "_forms" (.int 1)
  period : FldAt K H a "_period" (.int pe)
  bend : FldAt K H a "_bend" (.int be)
  mw : VM K H a "written" (mC K "Rest" "written")
  mf : VM K H a "forms" (mC K "Rest" "forms")
  mp : VM K H a "period" (mC K "Rest" "period")
  mb : VM K H a "bend" (mC K "Rest" "bend")
  isr : IsR K H a
theorem FldAt.same {H H' : Hp} {a : Addr} {f : Str} {v : V} (s : Same H H') (h : FldAt K H a f v) : FldAt K H' a f v := by
  obtain ⟨C, dx, fs, h1, r⟩ := h
  exact ⟨C, dx, fs, s _ _ h1, r⟩
theorem FmAt.ob (T : Tx K mg) {bad : Addr → Prop} {H : Hp} {a : Addr} : ∀ {f : Nt.Fm}, FmAt K bad H a f → Nt.FmOk f → ∃ tx pe be, PlOb K H a tx pe be
  | .win n, ⟨dx, tx, h0, h1⟩, ok => by
    refine ⟨tx, 1, 0, h0, by decide, by decide, ⟨_, dx, _, h1, T.c_Window, T.n_Window__text, by kernel_rfl⟩, ⟨_, dx, _, h1, T.c_Window, T.n_Window__forms, by kernel_rfl⟩, ⟨_, dx, _, h1, T.c_Window, T.n_Window__period, by kernel_rfl⟩, ⟨_, dx, _, h1, T.c_Window, T.n_Window__bend, by kernel_rfl⟩,
      ⟨_, dx, _, h1, by kernel_rfl, T.c_Window, ?_⟩, ⟨_, dx, _, h1, by kernel_rfl, T.c_Window, ?_⟩, ⟨_, dx, _, h1, by kernel_rfl, T.c_Window, ?_⟩, ⟨_, dx, _, h1, by kernel_rfl, T.c_Window, ?_⟩, ⟨_, T.isa_Window h1⟩⟩
    · rw [← T.same_Window_written]; exact T.m_Window_written
    · rw [← T.same_Window_forms]; exact T.m_Window_forms
    · rw [← T.same_Window_period]; exact T.m_Window_period
    · rw [← T.same_Window_bend]; exact T.m_Window_bend
  | .days bs p, ⟨dx, tx, b, h0, h1, _, _⟩, ⟨_, _, o3, o4⟩ => by
    refine ⟨tx, p, Nt.lastB bs, h0, o3, o4, ⟨_, dx, _, h1, T.c_Days, T.n_Days__text, by kernel_rfl⟩, ⟨_, dx, _, h1, T.c_Days, T.n_Days__forms, by kernel_rfl⟩, ⟨_, dx, _, h1, T.c_Days, T.n_Days__period, by kernel_rfl⟩, ⟨_, dx, _, h1, T.c_Days, T.n_Days__bend, by kernel_rfl⟩,
      ⟨_, dx, _, h1, by kernel_rfl, T.c_Days, ?_⟩, ⟨_, dx, _, h1, by kernel_rfl, T.c_Days, ?_⟩, ⟨_, dx, _, h1, by kernel_rfl, T.c_Days, ?_⟩, ⟨_, dx, _, h1, by kernel_rfl, T.c_Days, ?_⟩, ⟨_, T.isa_Days h1⟩⟩
    · rw [← T.same_Days_written]; exact T.m_Days_written
    · rw [← T.same_Days_forms]; exact T.m_Days_forms
    · rw [← T.same_Days_period]; exact T.m_Days_period
    · rw [← T.same_Days_bend]; exact T.m_Days_bend
def sp_joined (K : PySem.W.Frag) : Sp := fun vs H Q _ => ∃ (wd : Str) (a b : Addr) (tx1 tx2 : Str) (p1 b1 p2 b2 : Int), vs = [.str wd, .ref a, .ref b] ∧ wd.length ≤ 100 ∧ (∀ H', Same H H' → PlOb K H' a tx1 p1 b1) ∧ (∀ H', Same H H' → PlOb K H' b tx2 p2 b2) ∧
  ∀ (tx : Str) (pe be : Int) (t : Addr) (H' : Hp), Same H H' → H t = none → H' t = some (.tup [.str tx, .int 3, .int pe, .int be]) → Q (.ref t) H'
theorem ok_joined (T : Tx K mg) : O_joined P w K mg base 2 (sp_joined K) := by
  have G_f : O_Rest_forms P w K mg base 1 (sp_get K "_forms") := ok_Rest_forms T
  have G_p : O_Rest_period P w K mg base 1 (sp_get K "_period") := ok_Rest_period T
  have G_b : O_Rest_bend P w K mg base 1 (sp_get K "_bend") := ok_Rest_bend T
  have G_w : O_Rest_written P w K mg base 1 (sp_get K "_text") := ok_Rest_written T
  refine T.F_joined.ok sc_joined (fun vs H Q E h => ?_) (fun cdv A outer s H vs Q E hr h => ?_)
  · obtain ⟨wd, a, b, tx1, tx2, p1, b1, p2, b2, rfl, _⟩ := h
    rfl
  · obtain ⟨wd, a, b, tx1, tx2, p1, b1, p2, b2, rfl, hw, oa, ob, k⟩ := h
    obtain ⟨t1, h_FORMS⟩ := T.i_FORMS
    obtain ⟨t2, h_PERIOD⟩ := T.i_PERIOD
    refine ⟨_, PSs.nox ((pss_cons (ps_for PassesOwn.never rfl (show PI _ _ _ (iTup K _) from pi_tup (pe_tup (pa_cons (pv 1) (pa_cons (pv 2) pa_nil)))) (pg_name (i := 3) sc_joined.nd rfl (Or.inl rfl)) (pss_one (ps_if (pt_not (pt_val (pe_callB (Kw.isi K) (by rfl) T.f_isinstance (by decide +kernel) (pa_cons (pv 3) (pa_cons (pe_glob (v := .ref (gC K "Rest")) rfl T.g_Rest rfl) pa_nil))))) (pss_one (ps_never)) pss_nil))) (pss_cons (ps_set (i := 4) sc_joined.nd rfl (Or.inl rfl) (pe_op op_add (pe_op op_add (pe_int) (VrX.pe_methV0 (pv 1) hr)) (VrX.pe_methV0 (pv 2) hr))) (pss_cons (ps_if (pt_cmpR op_gt (pv 4) (pe_glob (v := .int 6) rfl h_FORMS ⟨_, rfl⟩) (nomark _)) (pss_one (ps_never)) pss_nil) (pss_cons (ps_set (i := 5) sc_joined.nd rfl (Or.inl rfl) (pe_callBfun StK.cr_lcm rfl T.b_lcm (pa_cons (VrX.pe_methV0 (pv 1) hr) (pa_cons (VrX.pe_methV0 (pv 2) hr) pa_nil)))) (pss_cons (ps_if (pt_cmpR op_gt (pv 5) (pe_glob (v := .int 2000) rfl h_PERIOD ⟨_, rfl⟩) (nomark _)) (pss_one (ps_never)) pss_nil) (pss_cons (ps_set (i := 6) sc_joined.nd rfl (Or.inl rfl) (pe_callB (call_max2 rfl) (by rfl) T.f_max (by decide +kernel) (pa_cons (VrX.pe_methV0 (pv 1) hr) (pa_cons (VrX.pe_methV0 (pv 2) hr) pa_nil)))) (pss_one (ps_ret (pe_tup (pa_cons (pe_joined (.cons (pe_fmt (pv 0)) (.cons pe_str (.cons (pe_fmt (VrX.pe_methV0 (pv 1) hr)) (.cons pe_str (.cons (pe_fmt (VrX.pe_methV0 (pv 2) hr)) (.cons pe_str PJ.nil))))))) (pa_cons (pv 4) (pa_cons (pv 5) (pa_cons (pv 6) pa_nil)))))))))))))), ?_⟩
    walk_at "go"
    refine Sx.nw (by show 2 ≤ _; decide) fun d n1 => ?_
    have s1 : Same H (upd H d (.tup [V.ref a, V.ref b])) := Sx.same_new (Sx.same_rfl H) n1
    have hd1 : (upd H d (.tup [V.ref a, V.ref b])) d = some (.tup [V.ref a, V.ref b]) := upd_same
    generalize upd H d (.tup [V.ref a, V.ref b]) = H1 at s1 hd1
    walk_at "go"
    refine ⟨d, rfl, ⟨_, SqT.of hd1⟩, VrX.for_J (n := 2) (fun i σ H' => H' = H1 ∧ ∃ v, σ = [some (.str wd), some (.ref a), some (.ref b), v, none, none, none]) ⟨rfl, _, rfl⟩
      (fun _ _ h => ⟨[V.ref a, V.ref b], SqT.of (h.1 ▸ hd1), Nat.le_refl 2⟩) (fun i _ _ hi h => ⟨_, _, SqT.of (h.1 ▸ hd1), List.getElem?_eq_getElem hi⟩) ?_ ?_⟩
    · rintro i y σ H2 H3 hi ⟨rfl, v, rfl⟩ ⟨rfl, hy⟩
      have hy2 := hy _ (SqT.of hd1)
      have isr : ∃ z, y = .ref z ∧ IsR K H3 z := by
        rcases i with _ | _ | i
        · exact ⟨a, (Option.some.inj hy2).symm, (oa _ s1).isr⟩
        · exact ⟨b, (Option.some.inj hy2).symm, (ob _ s1).isr⟩
        · omega
      obtain ⟨z, rfl, C, h1, h2⟩ := isr
      walk_at "go"
      refine ⟨_, _, _, _, true, rfl, .own _, h1, h2, ?_⟩
      walk_at "go"
      exact ⟨rfl, _, rfl⟩
    · rintro σ H2 ⟨rfl, v, rfl⟩
      walk_at "go"
      refine methV_of (oa _ s1).mf G_f (by decide) T.b_Rest_forms ?_
      walk_at "go"
      refine ⟨a, _, rfl, (oa _ s1).forms, ?_⟩
      walk_at "go"
      refine methV_of (ob _ s1).mf G_f (by decide) T.b_Rest_forms ?_
      walk_at "go"
      refine ⟨b, _, rfl, (ob _ s1).forms, ?_⟩
      walk_at "go"
      refine Sx.dF (by decide) ?_
      walk_at "go"
      refine methV_of (oa _ s1).mp G_p (by decide) T.b_Rest_period ?_
      walk_at "go"
      refine ⟨a, _, rfl, (oa _ s1).period, ?_⟩
      walk_at "go"
      refine methV_of (ob _ s1).mp G_p (by decide) T.b_Rest_period ?_
      walk_at "go"
      refine ⟨b, _, rfl, (ob _ s1).period, ?_⟩
      walk_at "go"
      have q1 := (oa _ s1).h1
      have q2 := (oa _ s1).h9
      have q3 := (ob _ s1).h1
      have q4 := (ob _ s1).h9
      have hl : Nat.lcm p1.natAbs p2.natAbs ≤ 81 := by
        refine Nat.le_trans (Nat.le_of_dvd (Nat.mul_pos (by omega) (by omega)) (Nat.lcm_dvd (Nat.dvd_mul_right _ _) (Nat.dvd_mul_left _ _))) ?_
        exact Nat.mul_le_mul (show p1.natAbs ≤ 9 by omega) (show p2.natAbs ≤ 9 by omega)
      refine ⟨p1, p2, rfl, by omega, by omega, ?_⟩
      walk_at "go"
      refine Sx.dF (by omega) ?_
      walk_at "go"
      refine methV_of (oa _ s1).mb G_b (by decide) T.b_Rest_bend ?_
      walk_at "go"
      refine ⟨a, _, rfl, (oa _ s1).bend, ?_⟩
      walk_at "go"
      refine methV_of (ob _ s1).mb G_b (by decide) T.b_Rest_bend ?_
      walk_at "go"
      refine ⟨b, _, rfl, (ob _ s1).bend, ?_⟩
      walk_at "go"
      refine ⟨_, _, rfl, ?_⟩
      walk_at "go"
      have e0 : (Str.empty ++ wd).length ≤ 100 := by
        rw [strLen_append]
        have : Str.empty.length = 0 := by decide +kernel
        omega
      refine .inl ⟨wd, rfl, by rw [sizeLine_eq]; omega, ?_⟩
      refine Sx.jst (by rw [sizeLine_eq]; omega) ?_
      walk_at "go"
      have c1 : ("(" : Str).length = 1 := by decide +kernel
      have c2 : (", " : Str).length = 2 := by decide +kernel
      have c3 : (")" : Str).length = 1 := by decide +kernel
      have z1 := (oa _ s1).ht
      have z2 := (ob _ s1).ht
      refine Sx.jst (by rw [strLen_append, sizeLine_eq]; omega) ?_
      walk_at "go"
      refine methV_of (oa _ s1).mw G_w (by decide) T.b_Rest_written ?_
      walk_at "go"
      refine ⟨a, _, rfl, (oa _ s1).text, ?_⟩
      walk_at "go"
      refine .inl ⟨tx1, rfl, by rw [sizeLine_eq]; omega, ?_⟩
      refine Sx.jst (by rw [strLen_append, strLen_append, sizeLine_eq]; omega) ?_
      walk_at "go"
      refine Sx.jst (by rw [strLen_append, strLen_append, strLen_append, sizeLine_eq]; omega) ?_
      walk_at "go"
      refine methV_of (ob _ s1).mw G_w (by decide) T.b_Rest_written ?_
      walk_at "go"
      refine ⟨b, _, rfl, (ob _ s1).text, ?_⟩
      walk_at "go"
      refine .inl ⟨tx2, rfl, by rw [sizeLine_eq]; omega, ?_⟩
      refine Sx.jst (by rw [strLen_append, strLen_append, strLen_append, strLen_append, sizeLine_eq]; omega) ?_
      walk_at "go"
      refine Sx.jst (by rw [strLen_append, strLen_append, strLen_append, strLen_append, strLen_append, sizeLine_eq]; omega) ?_
      walk_at "go"
      refine Sx.nw (by show 4 ≤ _; decide) fun r1 m1 => ?_
      walk_at "go"
      exact k _ _ _ r1 _ (Sx.same_new s1 (Sx.new_none s1 m1)) (Sx.new_none s1 m1) upd_same
/-! ### Later, Sooner, Next -/
abbrev tf (tx : Str) (pe be : Int) (a b : Addr) : List (Str × V) := [("_text", .str tx), ("_forms", .int 3), ("_period", .int pe), ("_bend", .int be), ("first", .ref a), ("second", .ref b)]
def sp_two_init (K : PySem.W.Frag) (C : Str) : Sp := fun vs H Q _ => ∃ (x dx a b : Addr) (tx1 tx2 : Str) (p1 b1 p2 b2 : Int), vs = [.ref x, .ref a, .ref b] ∧ H x = some (.ins (gC K C) dx []) ∧ (∀ H', Same H H' → PlOb K H' a tx1 p1 b1) ∧ (∀ H', Same H H' → PlOb K H' b tx2 p2 b2) ∧
  ∀ (tx : Str) (pe be : Int) (H' : Hp), Stay x H H' → H' x = some (.ins (gC K C) dx (tf tx pe be a b)) → Q .non H'
theorem ok_Later_init (T : Tx K mg) (hP : PF P) : FnOk P w K mg base CX0 3 (mC K "Later" "__init__") (fdAt K (mC K "Later" "__init__")) P_S_Later (sp_two_init K "Later") := by
  have G_joined : O_joined P w K mg base 2 (sp_joined K) := ok_joined T
  have G_Rest___init__ : O_Rest___init__ P w K mg base 1 (sp_Rest_init K) := ok_Rest_init T
  refine fn_ofS (T.S_Later hP.file) sc_S_Later (fun vs H Q E h => ?_) (fun A outer s H vs Q E hr h => ?_)
  · obtain ⟨x, dx, a, b, _, _, _, _, _, _, rfl, _⟩ := h
    rfl
  · obtain ⟨x, dx, a, b, tx1, tx2, p1, b1, p2, b2, rfl, hx, oa, ob, k⟩ := h
    refine ⟨_, (psa_cons (VrX.psa_nx (ps_asg (pe_call G_joined (hr.mono (by decide)) rfl T.g_joined T.F_joined.kp T.b_joined .nil pass0 (pa_cons (pe_str) (pa_cons (pv 1) (pa_cons (pv 2) pa_nil)))) (show PG _ _ (gTup K 4 _) from pg_tup rfl (pgs_cons (pg_name (i := 4) sc_S_Later.nd rfl (Or.inl rfl)) (pgs_cons (pg_name (i := 5) sc_S_Later.nd rfl (Or.inl rfl)) (pgs_cons (pg_name (i := 6) sc_S_Later.nd rfl (Or.inl rfl)) (pgs_cons (pg_name (i := 7) sc_S_Later.nd rfl (Or.inl rfl)) pgs_nil))))))) (psa_cons (psa_super (T.S_Later hP.file) G_Rest___init__ (hr.mono (by decide)) T.b_Rest___init__ pass0 rfl T.f_super rfl (by rfl) rfl rfl rfl rfl hP.sup (pa_cons (pv 4) (pa_cons (pv 5) (pa_cons (pv 6) (pa_cons (pv 7) pa_nil))))) (psa_all (PSs.nox (pss_cons (show PS _ _ (sFld K _ _ _) from ps_fld (pv 0) (pv 1) rfl) (pss_one (show PS _ _ (sFld K _ _ _) from ps_fld (pv 0) (pv 2) rfl))))))), ?_⟩
    walk_at "go"
    refine ⟨_, a, b, _, _, _, _, _, _, rfl, (by decide +kernel), oa, ob, fun tx pe be t H1 s1 n1 ht => ?_⟩
    refine Sx.gtup (SqT.of ht) rfl ?_
    walk_at "go"
    have hx1 := s1 _ _ hx
    refine ⟨x, dx, [], rfl, hx1, ?_⟩
    walk_at "go"
    refine ⟨x, gC K "Later", dx, tx, 3, pe, be, rfl, hx1, new_Later T, ?_⟩
    walk_at "go"
    refine ⟨x, gC K "Later", dx, _, rfl, upd_same, T.c_Later, T.n_Later_first, (by show 4 < 1000; decide), ?_⟩
    walk_at "go"
    refine ⟨x, gC K "Later", dx, _, rfl, upd_same, T.c_Later, T.n_Later_second, (by show 5 < 1000; decide), ?_⟩
    rw [upd_upd, upd_upd]
    refine k tx pe be _ (fun d o hd e => ?_) upd_same
    rw [upd_ne hd]
    exact s1 _ _ e
theorem ok_Sooner_init (T : Tx K mg) (hP : PF P) : FnOk P w K mg base CX0 3 (mC K "Sooner" "__init__") (fdAt K (mC K "Sooner" "__init__")) P_S_Sooner (sp_two_init K "Sooner") := by
  have G_joined : O_joined P w K mg base 2 (sp_joined K) := ok_joined T
  have G_Rest___init__ : O_Rest___init__ P w K mg base 1 (sp_Rest_init K) := ok_Rest_init T
  refine fn_ofS (T.S_Sooner hP.file) sc_S_Sooner (fun vs H Q E h => ?_) (fun A outer s H vs Q E hr h => ?_)
  · obtain ⟨x, dx, a, b, _, _, _, _, _, _, rfl, _⟩ := h
    rfl
  · obtain ⟨x, dx, a, b, tx1, tx2, p1, b1, p2, b2, rfl, hx, oa, ob, k⟩ := h
    refine ⟨_, (psa_cons (VrX.psa_nx (ps_asg (pe_call G_joined (hr.mono (by decide)) rfl T.g_joined T.F_joined.kp T.b_joined .nil pass0 (pa_cons (pe_str) (pa_cons (pv 1) (pa_cons (pv 2) pa_nil)))) (show PG _ _ (gTup K 4 _) from pg_tup rfl (pgs_cons (pg_name (i := 4) sc_S_Sooner.nd rfl (Or.inl rfl)) (pgs_cons (pg_name (i := 5) sc_S_Sooner.nd rfl (Or.inl rfl)) (pgs_cons (pg_name (i := 6) sc_S_Sooner.nd rfl (Or.inl rfl)) (pgs_cons (pg_name (i := 7) sc_S_Sooner.nd rfl (Or.inl rfl)) pgs_nil))))))) (psa_cons (psa_super (T.S_Sooner hP.file) G_Rest___init__ (hr.mono (by decide)) T.b_Rest___init__ pass0 rfl T.f_super rfl (by rfl) rfl rfl rfl rfl hP.sup (pa_cons (pv 4) (pa_cons (pv 5) (pa_cons (pv 6) (pa_cons (pv 7) pa_nil))))) (psa_all (PSs.nox (pss_cons (show PS _ _ (sFld K _ _ _) from ps_fld (pv 0) (pv 1) rfl) (pss_one (show PS _ _ (sFld K _ _ _) from ps_fld (pv 0) (pv 2) rfl))))))), ?_⟩
    walk_at "go"
    refine ⟨_, a, b, _, _, _, _, _, _, rfl, (by decide +kernel), oa, ob, fun tx pe be t H1 s1 n1 ht => ?_⟩
    refine Sx.gtup (SqT.of ht) rfl ?_
    walk_at "go"
    have hx1 := s1 _ _ hx
    refine ⟨x, dx, [], rfl, hx1, ?_⟩
    walk_at "go"
    refine ⟨x, gC K "Sooner", dx, tx, 3, pe, be, rfl, hx1, new_Sooner T, ?_⟩
    walk_at "go"
    refine ⟨x, gC K "Sooner", dx, _, rfl, upd_same, T.c_Sooner, T.n_Sooner_first, (by show 4 < 1000; decide), ?_⟩
    walk_at "go"
    refine ⟨x, gC K "Sooner", dx, _, rfl, upd_same, T.c_Sooner, T.n_Sooner_second, (by show 5 < 1000; decide), ?_⟩
    rw [upd_upd, upd_upd]
    refine k tx pe be _ (fun d o hd e => ?_) upd_same
    rw [upd_ne hd]
    exact s1 _ _ e
theorem ok_Next_init (T : Tx K mg) (hP : PF P) : FnOk P w K mg base CX0 3 (mC K "Next" "__init__") (fdAt K (mC K "Next" "__init__")) P_S_Next (sp_two_init K "Next") := by
  have G_joined : O_joined P w K mg base 2 (sp_joined K) := ok_joined T
  have G_Rest___init__ : O_Rest___init__ P w K mg base 1 (sp_Rest_init K) := ok_Rest_init T
  refine fn_ofS (T.S_Next hP.file) sc_S_Next (fun vs H Q E h => ?_) (fun A outer s H vs Q E hr h => ?_)
  · obtain ⟨x, dx, a, b, _, _, _, _, _, _, rfl, _⟩ := h
    rfl
  · obtain ⟨x, dx, a, b, tx1, tx2, p1, b1, p2, b2, rfl, hx, oa, ob, k⟩ := h
    refine ⟨_, (psa_cons (VrX.psa_nx (ps_asg (pe_call G_joined (hr.mono (by decide)) rfl T.g_joined T.F_joined.kp T.b_joined .nil pass0 (pa_cons (pe_str) (pa_cons (pv 1) (pa_cons (pv 2) pa_nil)))) (show PG _ _ (gTup K 4 _) from pg_tup rfl (pgs_cons (pg_name (i := 4) sc_S_Next.nd rfl (Or.inl rfl)) (pgs_cons (pg_name (i := 5) sc_S_Next.nd rfl (Or.inl rfl)) (pgs_cons (pg_name (i := 6) sc_S_Next.nd rfl (Or.inl rfl)) (pgs_cons (pg_name (i := 7) sc_S_Next.nd rfl (Or.inl rfl)) pgs_nil))))))) (psa_cons (psa_super (T.S_Next hP.file) G_Rest___init__ (hr.mono (by decide)) T.b_Rest___init__ pass0 rfl T.f_super rfl (by rfl) rfl rfl rfl rfl hP.sup (pa_cons (pv 4) (pa_cons (pv 5) (pa_cons (pv 6) (pa_cons (pv 7) pa_nil))))) (psa_all (PSs.nox (pss_cons (show PS _ _ (sFld K _ _ _) from ps_fld (pv 0) (pv 1) rfl) (pss_one (show PS _ _ (sFld K _ _ _) from ps_fld (pv 0) (pv 2) rfl))))))), ?_⟩
    walk_at "go"
    refine ⟨_, a, b, _, _, _, _, _, _, rfl, (by decide +kernel), oa, ob, fun tx pe be t H1 s1 n1 ht => ?_⟩
    refine Sx.gtup (SqT.of ht) rfl ?_
    walk_at "go"
    have hx1 := s1 _ _ hx
    refine ⟨x, dx, [], rfl, hx1, ?_⟩
    walk_at "go"
    refine ⟨x, gC K "Next", dx, tx, 3, pe, be, rfl, hx1, new_Next T, ?_⟩
    walk_at "go"
    refine ⟨x, gC K "Next", dx, _, rfl, upd_same, T.c_Next, T.n_Next_first, (by show 4 < 1000; decide), ?_⟩
    walk_at "go"
    refine ⟨x, gC K "Next", dx, _, rfl, upd_same, T.c_Next, T.n_Next_second, (by show 5 < 1000; decide), ?_⟩
    rw [upd_upd, upd_upd]
    refine k tx pe be _ (fun d o hd e => ?_) upd_same
    rw [upd_ne hd]
    exact s1 _ _ e
/-! ### rests in the heap -/
def TwoAt (K : PySem.W.Frag) (bad : Addr → Prop) (H : Hp) (x : Addr) (C : Str) (f g : Nt.Fm) : Prop := ∃ dx tx pe be a b, H x = some (.ins (gC K C) dx (tf tx pe be a b)) ∧ FmAt K bad H a f ∧ FmAt K bad H b g
def RsAt (K : PySem.W.Frag) (bad : Addr → Prop) (H : Hp) (x : Addr) : Nt.Rs → Prop
  | .pl f => FmAt K bad H x f
  | .lat f g => TwoAt K bad H x "Later" f g
  | .soo f g => TwoAt K bad H x "Sooner" f g
  | .nxt f g => TwoAt K bad H x "Next" f g
theorem TwoAt.same {bad : Addr → Prop} {H H' : Hp} {x : Addr} {C : Str} {f g : Nt.Fm} (s : Same H H') (h : TwoAt K bad H x C f g) : TwoAt K bad H' x C f g := by
  obtain ⟨dx, tx, pe, be, a, b, h1, h2, h3⟩ := h
  exact ⟨dx, tx, pe, be, a, b, s _ _ h1, h2.same s, h3.same s⟩
theorem RsAt.same {bad : Addr → Prop} {H H' : Hp} {x : Addr} (s : Same H H') : ∀ {r : Nt.Rs}, RsAt K bad H x r → RsAt K bad H' x r
  | .pl _, h => FmAt.same s h
  | .lat _ _, h => TwoAt.same s h
  | .soo _ _, h => TwoAt.same s h
  | .nxt _ _, h => TwoAt.same s h
/-! ### _after of two, __call__ -/
/-- the promise of _after of the plain rest f at a -/
def spA (K : PySem.W.Frag) (bad : Addr → Prop) (a : Addr) (f : Nt.Fm) : Sp := fun vs H Q _ => ∃ u : Int, vs = [.ref a, .int u] ∧ FmAt K bad H a f ∧ Nt.FmOk f ∧ Q (.int (Nt.fmAft f u)) H
theorem after_V {X : Cx} {mg : Str → Option Value} {n : Nat} {a : Addr} {f : Nt.Fm} {bad : Addr → Prop} {t : TA} {σ : L2.St} {H : Hp} {Q : VK} (T : Tx X.K mg) (GW : O_Window__after X.prog X.w X.K X.mg X.base 1 (sp_win X.K)) (GD : O_Days__after X.prog X.w X.K X.mg X.base 1 (sp_days X.K)) (hn : 1 ≤ n) (h : FmAt X.K bad H a f)
    (q : t σ H fun vs H2 => spA X.K bad a f (.ref a :: vs) H2 Q E0) : ∃ (a' dx C f : Addr) (fs : List (Str × V)) (fd : FuncData) (ps : List Str) (sp : Sp) (k : Nat), V.ref a = .ref a' ∧ H a' = some (.ins C dx fs) ∧ fs.lookup ("_after" : Str) = none ∧ Cls X.K C ∧ Meth X.K C "_after" f ∧
  FnOk X.prog X.w X.K X.mg X.base CX0 k f fd ps sp ∧ k ≤ n ∧ Binds X.K fd ps [] ∧ t σ H fun vs H2 => sp (.ref a :: vs) H2 Q E0 := by
  cases f with
  | win m =>
    obtain ⟨dx, tx, h0, h1⟩ := h
    refine ⟨a, dx, _, _, _, _, _, _, 1, rfl, h1, by kernel_rfl, T.c_Window, T.m_Window__after, GW.imp (sp' := spA X.K bad a (.win m)) ?_, hn, T.b_Window__after, q⟩
    rintro vs H Q E ⟨u, rfl, ⟨dx, tx, h0, h1⟩, ok, k⟩
    exact ⟨a, dx, tx, m, u, rfl, h1, k⟩
  | days bs p =>
    obtain ⟨dx, tx, b, h0, h1, h2, h3⟩ := h
    refine ⟨a, dx, _, _, _, _, _, _, 1, rfl, h1, by kernel_rfl, T.c_Days, T.m_Days__after, GD.imp (sp' := spA X.K bad a (.days bs p)) ?_, hn, T.b_Days__after, q⟩
    rintro vs H Q E ⟨u, rfl, ⟨dx, tx, b, h0, h1, h2, h3⟩, ok, k⟩
    exact ⟨a, dx, b, tx, bs, p, u, rfl, h1, h2, ok, k⟩
def sp_two (K : PySem.W.Frag) (bad : Addr → Prop) (C : Str) (F : Nt.Fm → Nt.Fm → Int → Int) : Sp := fun vs H Q _ => ∃ (x : Addr) (t : Int) (f g : Nt.Fm), vs = [.ref x, .int t] ∧ TwoAt K bad H x C f g ∧ Nt.FmOk f ∧ Nt.FmOk g ∧ Q (.int (F f g t)) H
abbrev afL (f g : Nt.Fm) (t : Int) : Int := Nt.rsAft (.lat f g) t
abbrev afS (f g : Nt.Fm) (t : Int) : Int := Nt.rsAft (.soo f g) t
abbrev afN (f g : Nt.Fm) (t : Int) : Int := Nt.rsAft (.nxt f g) t
theorem ok_Later_after (T : Tx K mg) (bad : Addr → Prop) : O_Later__after P w K mg base 2 (sp_two K bad "Later" afL) := by
  have GW : O_Window__after P w K mg base 1 (sp_win K) := ok_Window_after T
  have GD : O_Days__after P w K mg base 1 (sp_days K) := ok_Days_after T
  refine T.F_Later__after.ok sc_Later__after (fun vs H Q E h => ?_) (fun cdv A outer s H vs Q E hr h => ?_)
  · obtain ⟨x, t, f, g, rfl, _⟩ := h
    rfl
  · obtain ⟨x, t, f, g, rfl, ⟨dx, tx, pe, be, a, b, h1, h2, h3⟩, o1, o2, k⟩ := h
    refine ⟨_, PSs.nox ((pss_one (ps_ret (pe_callB (call_max2 rfl) (by rfl) T.f_max (by decide +kernel) (pa_cons (VrX.pe_methV (show PE _ _ (tFld K _ _) from pe_fld (pv 0) rfl) hr (pa_cons (pv 1) pa_nil)) (pa_cons (VrX.pe_methV (show PE _ _ (tFld K _ _) from pe_fld (pv 0) rfl) hr (pa_cons (pv 1) pa_nil)) pa_nil)))))), ?_⟩
    walk_at "go"
    refine Sx.fldA h1 T.c_Later T.n_Later_first (v := .ref a) (by kernel_rfl) ?_
    refine after_V T GW GD (by decide) h2 ?_
    walk_at "go"
    refine ⟨t, rfl, h2, o1, ?_⟩
    walk_at "go"
    refine Sx.fldA h1 T.c_Later T.n_Later_second (v := .ref b) (by kernel_rfl) ?_
    refine after_V T GW GD (by decide) h3 ?_
    walk_at "go"
    refine ⟨t, rfl, h3, o2, ?_⟩
    walk_at "go"
    refine ⟨_, _, rfl, ?_⟩
    exact k
theorem ok_Sooner_after (T : Tx K mg) (bad : Addr → Prop) : O_Sooner__after P w K mg base 2 (sp_two K bad "Sooner" afS) := by
  have GW : O_Window__after P w K mg base 1 (sp_win K) := ok_Window_after T
  have GD : O_Days__after P w K mg base 1 (sp_days K) := ok_Days_after T
  refine T.F_Sooner__after.ok sc_Sooner__after (fun vs H Q E h => ?_) (fun cdv A outer s H vs Q E hr h => ?_)
  · obtain ⟨x, t, f, g, rfl, _⟩ := h
    rfl
  · obtain ⟨x, t, f, g, rfl, ⟨dx, tx, pe, be, a, b, h1, h2, h3⟩, o1, o2, k⟩ := h
    refine ⟨_, PSs.nox ((pss_one (ps_ret (pe_callB (call_min2 rfl) (by rfl) T.f_min (by decide +kernel) (pa_cons (VrX.pe_methV (show PE _ _ (tFld K _ _) from pe_fld (pv 0) rfl) hr (pa_cons (pv 1) pa_nil)) (pa_cons (VrX.pe_methV (show PE _ _ (tFld K _ _) from pe_fld (pv 0) rfl) hr (pa_cons (pv 1) pa_nil)) pa_nil)))))), ?_⟩
    walk_at "go"
    refine Sx.fldA h1 T.c_Sooner T.n_Sooner_first (v := .ref a) (by kernel_rfl) ?_
    refine after_V T GW GD (by decide) h2 ?_
    walk_at "go"
    refine ⟨t, rfl, h2, o1, ?_⟩
    walk_at "go"
    refine Sx.fldA h1 T.c_Sooner T.n_Sooner_second (v := .ref b) (by kernel_rfl) ?_
    refine after_V T GW GD (by decide) h3 ?_
    walk_at "go"
    refine ⟨t, rfl, h3, o2, ?_⟩
    walk_at "go"
    refine ⟨_, _, rfl, ?_⟩
    exact k
theorem ok_Next_after (T : Tx K mg) (bad : Addr → Prop) : O_Next__after P w K mg base 2 (sp_two K bad "Next" afN) := by
  have GW : O_Window__after P w K mg base 1 (sp_win K) := ok_Window_after T
  have GD : O_Days__after P w K mg base 1 (sp_days K) := ok_Days_after T
  refine T.F_Next__after.ok sc_Next__after (fun vs H Q E h => ?_) (fun cdv A outer s H vs Q E hr h => ?_)
  · obtain ⟨x, t, f, g, rfl, _⟩ := h
    rfl
  · obtain ⟨x, t, f, g, rfl, ⟨dx, tx, pe, be, a, b, h1, h2, h3⟩, o1, o2, k⟩ := h
    refine ⟨_, PSs.nox ((pss_one (ps_ret (VrX.pe_methV (show PE _ _ (tFld K _ _) from pe_fld (pv 0) rfl) hr (pa_cons (VrX.pe_methV (show PE _ _ (tFld K _ _) from pe_fld (pv 0) rfl) hr (pa_cons (pv 1) pa_nil)) pa_nil))))), ?_⟩
    walk_at "go"
    refine Sx.fldA h1 T.c_Next T.n_Next_second (v := .ref b) (by kernel_rfl) ?_
    refine after_V T GW GD (by decide) h3 ?_
    walk_at "go"
    refine Sx.fldA h1 T.c_Next T.n_Next_first (v := .ref a) (by kernel_rfl) ?_
    refine after_V T GW GD (by decide) h2 ?_
    walk_at "go"
    refine ⟨t, rfl, h2, o1, ?_⟩
    walk_at "go"
    refine ⟨_, rfl, h3, o2, ?_⟩
    walk_at "go"
    exact k
/-- the promise of _after, of __call__ of the rest r at a -/
def spR (K : PySem.W.Frag) (bad : Addr → Prop) (a : Addr) (r : Nt.Rs) : Sp := fun vs H Q _ => ∃ u : Int, vs = [.ref a, .int u] ∧ RsAt K bad H a r ∧ Nt.RsOk r ∧ Q (.int (Nt.rsAft r u)) H
def sp_call (K : PySem.W.Frag) (bad : Addr → Prop) : Sp := fun vs H Q _ => ∃ (a : Addr) (u : Int) (r : Nt.Rs), vs = [.ref a, .int u] ∧ RsAt K bad H a r ∧ Nt.RsOk r ∧ Q (.int (Nt.rsAft r u)) H
theorem ok_Rest_call (T : Tx K mg) (bad : Addr → Prop) : O_Rest___call__ P w K mg base 3 (sp_call K bad) := by
  have GW : O_Window__after P w K mg base 1 (sp_win K) := ok_Window_after T
  have GD : O_Days__after P w K mg base 1 (sp_days K) := ok_Days_after T
  have GL : O_Later__after P w K mg base 2 (sp_two K bad "Later" afL) := ok_Later_after T bad
  have GS : O_Sooner__after P w K mg base 2 (sp_two K bad "Sooner" afS) := ok_Sooner_after T bad
  have GN : O_Next__after P w K mg base 2 (sp_two K bad "Next" afN) := ok_Next_after T bad
  refine T.F_Rest___call__.ok sc_Rest___call__ (fun vs H Q E h => ?_) (fun cdv A outer s H vs Q E hr h => ?_)
  · obtain ⟨x, t, r, rfl, _⟩ := h
    rfl
  · obtain ⟨x, t, r, rfl, hx, ok, k⟩ := h
    refine ⟨_, PSs.nox ((pss_one (ps_ret (VrX.pe_methV (pv 0) hr (pa_cons (pv 1) pa_nil))))), ?_⟩
    walk_at "go"
    cases r with
    | pl f =>
      refine after_V T GW GD (by decide) hx ?_
      walk_at "go"
      exact ⟨t, rfl, hx, ok, k⟩
    | lat f g =>
      obtain ⟨dx, tx, pe, be, a, b, h1, h2, h3⟩ := id hx
      refine ⟨x, dx, _, _, _, _, _, _, 2, rfl, h1, by kernel_rfl, T.c_Later, T.m_Later__after, GL, (by decide), T.b_Later__after, ?_⟩
      walk_at "go"
      exact ⟨x, t, f, g, rfl, hx, ok.1, ok.2, k⟩
    | soo f g =>
      obtain ⟨dx, tx, pe, be, a, b, h1, h2, h3⟩ := id hx
      refine ⟨x, dx, _, _, _, _, _, _, 2, rfl, h1, by kernel_rfl, T.c_Sooner, T.m_Sooner__after, GS, (by decide), T.b_Sooner__after, ?_⟩
      walk_at "go"
      exact ⟨x, t, f, g, rfl, hx, ok.1, ok.2, k⟩
    | nxt f g =>
      obtain ⟨dx, tx, pe, be, a, b, h1, h2, h3⟩ := id hx
      refine ⟨x, dx, _, _, _, _, _, _, 2, rfl, h1, by kernel_rfl, T.c_Next, T.m_Next__after, GN, (by decide), T.b_Next__after, ?_⟩
      walk_at "go"
      exact ⟨x, t, f, g, rfl, hx, ok.1, ok.2, k⟩
end
end Wk

set_option Elab.async false
set_option linter.all false
set_option maxRecDepth 100000
set_option maxHeartbeats 2000000
namespace Wk
open PySem PySem.Spec PyProof.Rows L2 NdefX SuX Hk
local macro_rules | `(tactic| walk_at "st") => `(tactic| first
  | with_reducible refine Sx.ret ?_
  | with_reducible refine Sx.retN ?_
  | with_reducible refine Sx.seq ?_
  | with_reducible refine Sx.next ?_
  | with_reducible refine Sx.brk ?_
  | with_reducible refine Sx.cont ?_
  | with_reducible refine Sx.drop ?_
  | with_reducible refine Sx.asg ?_
  | with_reducible refine Sx.gname ?_
  | with_reducible refine Sx.ifS ?_
  | with_reducible refine Sx.var ?_
  | with_reducible refine Sx.con ?_
  | with_reducible refine Sx.op ?_
  | with_reducible refine Sx.un ?_
  | with_reducible refine Sx.cb ?_
  | with_reducible refine Sx.cons ?_
  | with_reducible refine Sx.nil ?_
  | with_reducible refine Sx.call ?_
  | with_reducible refine Sx.test ?_
  | with_reducible refine Sx.tb_ ?_
  | with_reducible refine Sx.bl ?_
  | with_reducible refine Sx.and_ ?_
  | with_reducible refine Sx.or_ ?_
  | with_reducible refine Sx.not_ ?_
  | with_reducible refine Sx.andV ?_
  | with_reducible refine Sx.orV ?_
  | with_reducible refine Sx.notV ?_
  | with_reducible refine Sx.ife ?_
  | with_reducible refine Sx.i0 ?_
  | with_reducible refine Sx.iU ?_
  | with_reducible refine Sx.eqI ?_
  | with_reducible refine Sx.eqS ?_
  | with_reducible refine Sx.neI ?_
  | with_reducible refine Sx.neS ?_
  | with_reducible refine Sx.isN' ?_
  | with_reducible refine Sx.chain ?_
  | with_reducible refine Sx.aug ?_
  | with_reducible refine Sx.ipI' ?_
  | with_reducible refine Sx.ifT ?_
  | with_reducible refine Sx.ifF ?_
  | with_reducible refine Sx.ifnF ?_
  | with_reducible refine Sx.ifnT ?_
  | with_reducible refine Sx.tup ?_
  | with_reducible refine Sx.lst ?_
  | with_reducible refine Sx.fld ?_
  | with_reducible refine Sx.sfld ?_
  | with_reducible refine Sx.meth ?_
  | with_reducible refine Sx.app ?_
  | with_reducible refine Sx.gcons ?_
  | with_reducible refine Sx.gnil ?_
  | with_reducible refine Sx.dget ?_
  | with_reducible refine Sx.din ?_
  | with_reducible refine Sx.dnin ?_
  | with_reducible refine Sx.dput ?_
  | with_reducible refine Sx.forS ?_
  | with_reducible refine Sx.ikeys ?_
  | with_reducible refine Sx.ienumT ?_
  | with_reducible refine Sx.scT ?_
  | with_reducible refine Sx.dc2 ?_
  | with_reducible refine Sx.tru ?_
  | with_reducible refine Sx.mv ?_
  | with_reducible refine Sx.cv ?_
  | with_reducible refine Sx.cw ?_
  | with_reducible refine Sx.join ?_
  | with_reducible refine Sx.lc ?_
  | with_reducible refine Sx.istr ?_
  | with_reducible refine Sx.ilist ?_
  | with_reducible refine Sx.itup ?_
  | with_reducible refine Sx.irng1 ?_
  | with_reducible refine Sx.irng2 ?_
  | with_reducible refine Sx.ienum ?_
  | with_reducible refine Sx.izip ?_
  | with_reducible refine Sx.irev ?_
  | with_reducible refine Sx.iitems ?_
  | with_reducible refine Sx.yes ?_
  | with_reducible refine Sx.js_cons ?_
  | with_reducible refine Sx.js_nil ?_
  | with_reducible refine Sx.fmt ?_
  | with_reducible refine Sx.isi_int ?_
  | with_reducible refine Sx.isi_intb ?_
  | with_reducible refine Sx.isi_str ?_)
local macro_rules | `(tactic| walk_at "go") => `(tactic| repeat walk_at "st")
local macro_rules | `(tactic| walk_at "is") => `(tactic| simp only [Option.isSome_some, Option.isSome_none, Bool.not_true, Bool.not_false])
/-! Nets: rows, distances, the least lateness. -/
section
variable {P : Program} {w : World} {K : PySem.W.Frag} {mg : Str → Option Value} {base : Heap}
abbrev Rw : Type := Nt.Row Str
def evV : Option Str → V
  | none => .non
  | some e => .str e
abbrev rowV (r : Rw) : List V := [.str r.name, evV r.elder, .int r.er, .int r.de]
/-- a row that _is_row takes, behind the names in kvs -/
def RowFit (kvs : List (Key × V)) (r : Rw) : Prop := nameB r.name = true ∧ valV kvs (Sum.inr r.name) = none ∧ 0 ≤ r.er ∧ r.er ≤ 100 ∧ 0 ≤ r.de ∧ r.de ≤ 100 ∧
  ((kvs = [] ∧ r.elder = none ∧ r.de = 0) ∨ (kvs ≠ [] ∧ ∃ e, r.elder = some e ∧ nameB e = true ∧ (valV kvs (Sum.inr e)).isSome = true))
def sp_is_row : Sp := fun vs H Q _ => ∃ (t k : Addr) (r : Rw) (kvs : List (Key × V)), vs = [.ref t, .ref k] ∧ H t = some (.tup (rowV r)) ∧ H k = some (.dK kvs) ∧ RowFit kvs r ∧ Q (.bl true) H
theorem ok_is_row (T : Tx K mg) : O__is_row P w K mg base 2 sp_is_row := by
  have G_is_number : O_is_number P w K mg base 1 sp_is_number := ok_is_number T
  have G_is_name : O_is_name P w K mg base 1 sp_is_name := ok_is_name T
  refine T.F__is_row.ok sc__is_row (fun vs H Q E h => ?_) (fun cdv A outer s H vs Q E hr h => ?_)
  · obtain ⟨t, k, r, kvs, rfl, _⟩ := h
    rfl
  · obtain ⟨t, d, r, kvs, rfl, ht, hd, ⟨f1, f2, f3, f4, f5, f6, f7⟩, k⟩ := h
    obtain ⟨t1, h_MOST_ERROR⟩ := T.i_MOST_ERROR
    refine ⟨_, PSs.nox ((pss_cons (ps_if (PW.pt (pw_or (pt_not (pt_val (pe_callB (Kw.isi K) (by rfl) T.f_isinstance (by decide +kernel) (pa_cons (pv 0) (pa_cons (pe_bltn (v := .ty "tuple") rfl T.f_tuple (by decide +kernel) rfl) pa_nil))))) (pw_or1 (pt_cmpR op_ne (pe_callB (Kw.len K) (by rfl) T.f_len (by decide +kernel) (pa_cons (pv 0) pa_nil)) (pe_int) (nomark _))))) (pss_one (ps_ret (pe_bl))) pss_nil) (pss_cons (ps_asg (pv 0) (show PG _ _ (gTup K 4 _) from pg_tup rfl (pgs_cons (pg_name (i := 2) sc__is_row.nd rfl (Or.inl rfl)) (pgs_cons (pg_name (i := 3) sc__is_row.nd rfl (Or.inl rfl)) (pgs_cons (pg_name (i := 4) sc__is_row.nd rfl (Or.inl rfl)) (pgs_cons (pg_name (i := 5) sc__is_row.nd rfl (Or.inl rfl)) pgs_nil)))))) (pss_cons (ps_if (PW.pt (pw_or (pt_not (pt_val (pe_call G_is_name (hr.mono (by decide)) rfl T.g_is_name T.F_is_name.kp T.b_is_name .nil pass0 (pa_cons (pv 2) pa_nil)))) (pw_or1 (pt_cmp (pc_din (hu_of hr) (pv 2) (pv 1)))))) (pss_one (ps_ret (pe_bl))) pss_nil) (pss_cons (ps_if (PW.pt (pw_or (pt_not (pt_val (pe_call G_is_number (hr.mono (by decide)) rfl T.g_is_number T.F_is_number.kp T.b_is_number .nil pass0 (pa_cons (pv 4) (pa_cons (pe_int) (pa_cons (pe_glob (v := .int 100) rfl h_MOST_ERROR ⟨_, rfl⟩) pa_nil)))))) (pw_or1 (pt_not (pt_val (pe_call G_is_number (hr.mono (by decide)) rfl T.g_is_number T.F_is_number.kp T.b_is_number .nil pass0 (pa_cons (pv 5) (pa_cons (pe_int) (pa_cons (pe_glob (v := .int 100) rfl h_MOST_ERROR ⟨_, rfl⟩) pa_nil))))))))) (pss_one (ps_ret (pe_bl))) pss_nil) (pss_cons (ps_if (pt_not (show PT _ _ (Kw.tTru K _) from pt_truth (pv 1) (by intro _; rfl))) (pss_one (ps_ret (pe_and (pe_cmpR op_isN (pv 3) pe_non (nomark _)) (pe_one (pe_cmpR op_eq (pv 5) (pe_int) (nomark _)))))) pss_nil) (pss_one (ps_ret (pe_and (pe_call G_is_name (hr.mono (by decide)) rfl T.g_is_name T.F_is_name.kp T.b_is_name .nil pass0 (pa_cons (pv 3) pa_nil)) (pe_one (pe_cmp (pc_din (hu_of hr) (pv 3) (pv 1)) rfl))))))))))), ?_⟩
    walk_at "go"
    refine Sx.isi_tup ht ?_
    walk_at "go"
    refine Sx.lenT (SqT.of ht) ?_
    walk_at "go"
    refine Sx.ndT rfl ?_
    walk_at "go"
    refine Sx.gtup (SqT.of ht) rfl ?_
    walk_at "go"
    refine ⟨_, rfl, f1, ?_⟩
    walk_at "go"
    refine Sx.dinS hd f2 ?_
    walk_at "is"
    walk_at "go"
    refine ⟨_, _, _, rfl, f3, f4, ?_⟩
    walk_at "go"
    refine ⟨_, _, _, rfl, f5, f6, ?_⟩
    walk_at "go"
    refine Sx.truD hd ?_
    rcases f7 with ⟨e1, e2, e3⟩ | ⟨e1, e, e2, e3, e4⟩
    · subst e1
      refine Sx.bT (b := !(!([] : List (Key × V)).isEmpty)) rfl ?_
      walk_at "go"
      rw [e2]
      walk_at "go"
      refine Sx.dT (show evV (none : Option Str) = V.non from rfl) ?_
      walk_at "go"
      rw [e3]
      exact k
    · have hne : kvs.isEmpty = false := by
        cases kvs with
        | nil => exact absurd rfl e1
        | cons a b => rfl
      refine Sx.bF (by rw [hne]; rfl) ?_
      walk_at "go"
      rw [e2]
      refine ⟨e, rfl, e3, ?_⟩
      walk_at "go"
      refine Sx.dinS hd rfl ?_
      rw [e4]
      exact k
/-! ### the tables in the heap -/
/-- the rows' tuples, in order -/
def RowsAt (H : Hp) (rs : List (Addr × Rw)) : Prop := ∀ q ∈ rs, H q.1 = some (.tup (rowV q.2))
theorem RowsAt.same {H H' : Hp} {rs : List (Addr × Rw)} (s : Same H H') (h : RowsAt H rs) : RowsAt H' rs := fun q hq => s _ _ (h q hq)
abbrev knV (rs : List (Addr × Rw)) : List (Key × V) := rs.map fun q => (Sum.inr q.2.name, V.ref q.1)
abbrev rwN (rs : List (Addr × Rw)) : List Str := rs.map fun q => q.2.name
/-- a dict of dicts of values told by R -/
def TabAt (H : Hp) (d : Addr) (A B : List Str) (R : Hp → Str → Str → V → Prop) : Prop := ∃ kvs : List (Key × V), H d = some (.dK kvs) ∧ ∀ a ∈ A, ∃ l kva, valV kvs (Sum.inr a) = some (V.ref l) ∧ H l = some (.dK kva) ∧ ∀ b ∈ B, ∃ v, valV kva (Sum.inr b) = some v ∧ R H a b v
def RD (T : List Rw) : Hp → Str → Str → V → Prop := fun _ a b v => v = .int (Nt.D T a b)
def RK (T : List Rw) : Hp → Str → Str → V → Prop := fun H a b v => ∃ (t : Addr) (p : Str), v = .ref t ∧ H t = some (.tup [.int (Nt.K T a b), .str p])
theorem TabAt.same {H H' : Hp} {d : Addr} {A B : List Str} {R : Hp → Str → Str → V → Prop} (s : Same H H') (hR : ∀ a b v, R H a b v → R H' a b v) (h : TabAt H d A B R) : TabAt H' d A B R := by
  obtain ⟨kvs, h1, h2⟩ := h
  refine ⟨kvs, s _ _ h1, fun a ha => ?_⟩
  obtain ⟨l, kva, h3, h4, h5⟩ := h2 a ha
  refine ⟨l, kva, h3, s _ _ h4, fun b hb => ?_⟩
  obtain ⟨v, h6, h7⟩ := h5 b hb
  exact ⟨v, h6, hR a b v h7⟩
theorem RK.same {T : List Rw} {H H' : Hp} (s : Same H H') {a b : Str} {v : V} (h : RK T H a b v) : RK T H' a b v := by
  obtain ⟨t, p, h1, h2⟩ := h
  exact ⟨t, p, h1, s _ _ h2⟩
/-! ### _all_dists -/
abbrev revT (rs : List (Addr × Rw)) : List Rw := (rs.map (·.2)).reverse
theorem names_revT (l : List (Addr × Rw)) : Nt.names (revT l) = (rwN l).reverse := by
  show ((l.map (·.2)).reverse.map (·.name)) = (l.map fun q => q.2.name).reverse
  rw [List.map_reverse, List.map_map]
  rfl
abbrev dsV (ds : List (Str × Addr)) : List (Key × V) := ds.map fun q => (Sum.inr q.1, V.ref q.2)
theorem dsV_at {ds : List (Str × Addr)} (nd : (ds.map (·.1)).Nodup) {q : Str × Addr} (hq : q ∈ ds) : valV (dsV ds) (Sum.inr q.1) = some (V.ref q.2) := by
  have h := val_nodup (kvs := dsV ds) (by
    rw [List.map_map]
    have e : ((fun kv : Key × V => kv.1) ∘ fun q : Str × Addr => ((Sum.inr q.1 : Key), V.ref q.2)) = Sum.inr ∘ (fun q : Str × Addr => q.1) := rfl
    rw [e, ← List.map_map]
    exact List.pairwise_map.mpr (nd.imp fun h z => h (Sum.inr.inj z))) ((Sum.inr q.1 : Key), V.ref q.2) (List.mem_map.mpr ⟨q, hq, rfl⟩)
  exact h
theorem dsV_none {ds : List (Str × Addr)} {x : Str} (h : x ∉ ds.map (·.1)) : valV (dsV ds) (Sum.inr x) = none := by
  cases e : valV (dsV ds) (Sum.inr x) with
  | none => rfl
  | some v =>
    have := valV_in e
    rw [List.map_map] at this
    obtain ⟨q, hq, z⟩ := List.mem_map.mp this
    exact absurd (List.mem_map.mpr ⟨q, hq, Sum.inr.inj z⟩) h
structure DInv (G H' : Hp) (d : Addr) (T : List Rw) (nm : List Str) (ds : List (Str × Addr)) : Prop where
  same : Same G H'
  gd : G d = none
  hd : H' d = some (.dK (dsV ds))
  nms : ds.map (·.1) = nm
  nd : (ds.map (·.2)).Nodup
  fr : ∀ q ∈ ds, G q.2 = none ∧ q.2 ≠ d
  tab : ∀ q ∈ ds, ∃ kva, H' q.2 = some (.dK kva) ∧ kva.length ≤ nm.length ∧ ∀ b ∈ nm, valV kva (Sum.inr b) = some (.int (Nt.D T q.1 b))
structure DIn (G H' : Hp) (d L : Addr) (T : List Rw) (nm : List Str) (ds : List (Str × Addr)) (r : Rw) (j : Nat) : Prop where
  same : Same G H'
  hd : H' d = some (.dK (dsV ds))
  hL : ∃ kvl, H' L = some (.dK kvl) ∧ kvl.length ≤ j ∧ ∀ e, r.elder = some e → ∀ b ∈ nm.take j, valV kvl (Sum.inr b) = some (.int (Nt.D T e b + r.de))
  tab : ∀ m q, ds[m]? = some q → ∃ kva, H' q.2 = some (.dK kva) ∧ kva.length ≤ nm.length + (if m < j then 1 else 0) ∧ (∀ b ∈ nm, valV kva (Sum.inr b) = some (.int (Nt.D T q.1 b))) ∧ (m < j → ∀ e, r.elder = some e → valV kva (Sum.inr r.name) = some (.int (Nt.D T e q.1 + r.de)))
theorem DInv.toIn {G H1 H2 : Hp} {d L : Addr} {T : List Rw} {nm : List Str} {ds : List (Str × Addr)} {r : Rw} (D : DInv G H1 d T nm ds) (s : Same H1 H2) (hL : H2 L = some (.dK [])) : DIn G H2 d L T nm ds r 0 :=
  ⟨Sx.same_tr D.same s, s _ _ D.hd, ⟨[], hL, Nat.le_refl _, fun _ _ b hb => by cases hb⟩, fun m q hq => by
    obtain ⟨kva, h1, h2, h3⟩ := D.tab q (List.mem_of_getElem? hq)
    exact ⟨kva, s _ _ h1, by simpa using h2, h3, fun z => absurd z (Nat.not_lt_zero _)⟩⟩
theorem DIn.keep {G H1 H2 : Hp} {d L : Addr} {T : List Rw} {nm : List Str} {ds : List (Str × Addr)} {r : Rw} {j : Nat} (D : DIn G H1 d L T nm ds r j) (s : Same H1 H2) : DIn G H2 d L T nm ds r j := by
  obtain ⟨kvl, h1, h2⟩ := D.hL
  exact ⟨Sx.same_tr D.same s, s _ _ D.hd, ⟨kvl, s _ _ h1, h2⟩, fun m q hq => let ⟨kva, h3, h4⟩ := D.tab m q hq; ⟨kva, s _ _ h3, h4⟩⟩
theorem nodup_ne {ds : List (Str × Addr)} (nd : (ds.map (·.2)).Nodup) {m j : Nat} {q p : Str × Addr} (hq : ds[m]? = some q) (hp : ds[j]? = some p) (e : q.2 = p.2) : m = j := by
  have h1 := (List.getElem?_eq_some_iff.mp hq).1
  refine (List.getElem?_inj (l := ds.map (·.2)) (i := m) (j := j) (by rw [List.length_map]; exact h1) nd).mp ?_
  rw [List.getElem?_map, List.getElem?_map, hq, hp]
  exact congrArg some e
theorem DIn.step {G H1 : Hp} {d L : Addr} {T : List Rw} {nm : List Str} {ds : List (Str × Addr)} {r : Rw} {j : Nat} {q : Str × Addr} {e : Str} {kvl kva : List (Key × V)} (D : DIn G H1 d L T nm ds r j) (hLd : L ≠ d) (hLds : ∀ q ∈ ds, q.2 ≠ L) (gL : G L = none) (fr : ∀ q ∈ ds, G q.2 = none ∧ q.2 ≠ d)
    (nd : (ds.map (·.2)).Nodup) (nms : ds.map (·.1) = nm) (rn : r.name ∉ nm) (hq : ds[j]? = some q) (he : r.elder = some e) (hL : H1 L = some (.dK kvl)) (ha : H1 q.2 = some (.dK kva)) :
    DIn G (upd (upd H1 L (.dK (putK kvl (Sum.inr q.1) (.int (Nt.D T e q.1 + r.de))))) q.2 (.dK (putK kva (Sum.inr r.name) (.int (Nt.D T e q.1 + r.de))))) d L T nm ds r (j + 1) := by
  have hm := List.mem_of_getElem? hq
  have hjn : j < nm.length := by rw [← nms, List.length_map]; exact (List.getElem?_eq_some_iff.mp hq).1
  have hnj : nm[j]? = some q.1 := by rw [← nms, List.getElem?_map, hq]; rfl
  refine ⟨Sx.same_new (Sx.same_new D.same gL) (fr q hm).1, ?_, ?_, ?_⟩
  · rw [upd_ne (fr q hm).2.symm, upd_ne hLd.symm]
    exact D.hd
  · obtain ⟨kvl', h1, h2, h3⟩ := D.hL
    rw [hL] at h1
    obtain rfl : kvl = kvl' := HO.dK.inj (Option.some.inj h1)
    refine ⟨_, by rw [upd_ne (hLds q hm).symm, upd_same], Nat.le_trans (length_putK _ _ _) (Nat.succ_le_succ h2), fun e' he' b hb => ?_⟩
    obtain rfl : e = e' := Option.some.inj (he.symm.trans he')
    rw [valV_put]
    by_cases hbq : b = q.1
    · rw [hbq, if_pos rfl]
    · rw [if_neg (fun z => hbq (Sum.inr.inj z))]
      rw [List.take_succ, hnj] at hb
      rcases List.mem_append.mp hb with z | z
      · exact h3 e he b z
      · exact absurd (List.mem_singleton.mp z) hbq
  · intro m p hp
    obtain ⟨kv, h1, h2, h3, h4⟩ := D.tab m p hp
    have hpm := List.mem_of_getElem? hp
    by_cases hmj : m = j
    · subst hmj
      obtain rfl : q = p := Option.some.inj (hq.symm.trans hp)
      rw [ha] at h1
      obtain rfl : kva = kv := HO.dK.inj (Option.some.inj h1)
      rw [if_neg (Nat.lt_irrefl _)] at h2
      refine ⟨_, upd_same, by rw [if_pos (Nat.lt_succ_self _)]; exact Nat.le_trans (length_putK _ _ _) (Nat.succ_le_succ h2), fun b hb => ?_, fun _ e' he' => ?_⟩
      · rw [valV_put, if_neg (fun z => rn (by rw [← Sum.inr.inj z]; exact hb))]
        exact h3 b hb
      · obtain rfl : e = e' := Option.some.inj (he.symm.trans he')
        rw [valV_put, if_pos rfl]
    · have hne : p.2 ≠ q.2 := fun z => hmj (nodup_ne nd hp hq z)
      refine ⟨kv, by rw [upd_ne hne, upd_ne (hLds p hpm)]; exact h1, ?_, h3, fun z => h4 (by omega)⟩
      by_cases hlt : m < j
      · rw [if_pos hlt] at h2
        rw [if_pos (by omega)]
        exact h2
      · rw [if_neg hlt] at h2
        rw [if_neg (by omega)]
        exact h2
theorem DIn.done {G H1 : Hp} {d L : Addr} {T : List Rw} {nm : List Str} {ds : List (Str × Addr)} {r : Rw} {kvl : List (Key × V)} (D : DIn G H1 d L T nm ds r ds.length) (W : Nt.WF (r :: T)) (eT : ∀ x, x ∈ nm ↔ x ∈ Nt.names T) (gd : G d = none) (hLd : L ≠ d) (hLds : ∀ q ∈ ds, q.2 ≠ L) (gL : G L = none)
    (fr : ∀ q ∈ ds, G q.2 = none ∧ q.2 ≠ d) (nd : (ds.map (·.2)).Nodup) (nms : ds.map (·.1) = nm) (rn : r.name ∉ nm) (hL : H1 L = some (.dK kvl)) :
    DInv G (upd (upd H1 L (.dK (putK kvl (Sum.inr r.name) (.int 0)))) d (.dK (putK (dsV ds) (Sum.inr r.name) (.ref L)))) d (r :: T) (nm ++ [r.name]) (ds ++ [(r.name, L)]) := by
  have hlen : ds.length = nm.length := by rw [← nms, List.length_map]
  refine ⟨Sx.same_new (Sx.same_new D.same gL) gd, gd, ?_, by rw [List.map_append, nms]; rfl, ?_, ?_, ?_⟩
  · rw [upd_same, putK_new _ (dsV_none (by rw [nms]; exact rn))]
    simp [dsV]
  · rw [List.map_append]
    refine List.nodup_append.mpr ⟨nd, List.nodup_cons.mpr ⟨by simp, List.nodup_nil⟩, fun a ha b hb => ?_⟩
    obtain ⟨q, hq, rfl⟩ := List.mem_map.mp ha
    have hb : b = L := by simpa using hb
    rw [hb]
    exact hLds q hq
  · intro q hq
    rcases List.mem_append.mp hq with z | z
    · exact fr q z
    · rw [List.mem_singleton.mp z]
      exact ⟨gL, hLd⟩
  · intro q hq
    have hlen2 : (nm ++ [r.name]).length = nm.length + 1 := by simp
    rcases List.mem_append.mp hq with z | z
    · obtain ⟨m, hm⟩ := List.getElem?_of_mem z
      have hml : m < ds.length := (List.getElem?_eq_some_iff.mp hm).1
      obtain ⟨kv, h1, h2, h3, h4⟩ := D.tab m q hm
      rw [if_pos hml] at h2
      have hqn : q.1 ∈ nm := by rw [← nms]; exact List.mem_map.mpr ⟨q, z, rfl⟩
      refine ⟨kv, by rw [upd_ne (fr q z).2, upd_ne (hLds q z)]; exact h1, by rw [hlen2]; exact h2, fun b hb => ?_⟩
      have rnT : r.name ∉ Nt.names T := fun y => rn ((eT _).mpr y)
      rcases W.row with ⟨e1, _⟩ | ⟨W2, e, he, hep, _⟩
      · subst e1
        have := (eT q.1).mp hqn
        simp [Nt.names] at this
      · rcases List.mem_append.mp hb with y | y
        · rw [h3 b y, Nt.D_old rnT ((eT _).mp hqn) ((eT _).mp y)]
        · rw [List.mem_singleton.mp y, h4 hml e he, (Nt.D_row he rnT ((eT _).mp hqn)).2]
    · rw [List.mem_singleton.mp z]
      obtain ⟨kvl', h1, h2, h3⟩ := D.hL
      rw [hL] at h1
      obtain rfl : kvl = kvl' := HO.dK.inj (Option.some.inj h1)
      refine ⟨_, by rw [upd_ne hLd, upd_same], by rw [hlen2]; exact Nat.le_trans (length_putK _ _ _) (Nat.succ_le_succ (by omega)), fun b hb => ?_⟩
      rw [valV_put]
      by_cases hbr : b = r.name
      · rw [hbr, if_pos rfl, Nt.D_new_self]
      · rw [if_neg (fun y => hbr (Sum.inr.inj y))]
        have hbn : b ∈ nm := by
          rcases List.mem_append.mp hb with y | y
          · exact y
          · exact absurd (List.mem_singleton.mp y) hbr
        have rnT : r.name ∉ Nt.names T := fun y => rn ((eT _).mpr y)
        rcases W.row with ⟨e1, _⟩ | ⟨W2, e, he, hep, _⟩
        · subst e1
          have := (eT b).mp hbn
          simp [Nt.names] at this
        · rw [h3 e he b (by rw [hlen, List.take_length]; exact hbn), (Nt.D_row he rnT ((eT _).mp hbn)).1]
def sp_all_dists : Sp := fun vs H Q _ => ∃ (k : Addr) (rs : List (Addr × Rw)), vs = [.ref k] ∧ H k = some (.dK (knV rs)) ∧ RowsAt H rs ∧ Nt.WF (revT rs) ∧ rs.length ≤ 100 ∧
  ∀ (d : Addr) (H' : Hp), Same H H' → TabAt H' d (rwN rs) (rwN rs) (RD (revT rs)) → Q (.ref d) H'
theorem ok_all_dists (T : Tx K mg) : O__all_dists P w K mg base 1 sp_all_dists := by
  refine T.F__all_dists.ok sc__all_dists (fun vs H Q E h => ?_) (fun cdv A outer s H vs Q E hr h => ?_)
  · obtain ⟨k, rs, rfl, _⟩ := h
    rfl
  · obtain ⟨kn, rs, rfl, hk, hrs, W, hln, k⟩ := h
    refine ⟨_, PSs.nox ((pss_cons (ps_set (i := 1) sc__all_dists.nd rfl (Or.inl rfl) (pe_dnewK)) (pss_cons (ps_lock (ps_for PassesOwn.never rfl (pi_items (pv 0)) (show PG _ _ (gTup K 2 _) from pg_tup rfl (pgs_cons (pg_name (i := 2) sc__all_dists.nd rfl (Or.inl rfl)) (pgs_cons (pg_name (i := 3) sc__all_dists.nd rfl (Or.inl rfl)) pgs_nil))) (pss_cons (ps_set (i := 4) sc__all_dists.nd rfl (Or.inl rfl) (pe_dnewK)) (pss_cons (ps_for PassesOwn.never rfl (show PI _ _ _ (iList K _) from pi_list (pe_callTy (call_listD rfl) (by rfl) T.f_list (by decide +kernel) (pa_cons (pv 1) pa_nil))) (pg_name (i := 5) sc__all_dists.nd rfl (Or.inl rfl)) (pss_cons (ps_set (i := 6) sc__all_dists.nd rfl (Or.inl rfl) (pe_op op_add (pe_dget (hu_of hr) (pe_dget (hu_of hr) (pv 1) (pe_ix (Kw.ixT K) (pv 3) (pe_int) (fun _ _ => rfl)) (fun _ _ => rfl)) (pv 5) (fun _ _ => rfl)) (pe_ix (Kw.ixT K) (pv 3) (pe_int) (fun _ _ => rfl)))) (pss_cons (ps_dput (hu_of hr) (pv 4) (pv 5) (pv 6) rfl) (pss_cons (ps_set (i := 7) sc__all_dists.nd rfl (Or.inl rfl) (pe_dget (hu_of hr) (pv 1) (pv 5) (fun _ _ => rfl))) (pss_one (ps_dput (hu_of hr) (pv 7) (pv 2) (pv 6) rfl)))))) (pss_cons (ps_dput (hu_of hr) (pv 4) (pv 2) (pe_int) rfl) (pss_one (ps_dput (hu_of hr) (pv 1) (pv 2) (pv 4) rfl))))))) (pss_one (ps_ret (pv 1)))))), ?_⟩
    walk_at "go"
    intro d nd
    walk_at "go"
    have ndk : kn ≠ d := ne_of_none hk nd
    have hk1 : (upd H d (.dK [])) kn = some (.dK (knV rs)) := by rw [upd_ne ndk]; exact hk
    refine ⟨kn, _, hk1, trivial, fun od => ?_⟩
    have hk2 : (upd (upd H d (.dK [])) kn (.frz od (.dK (knV rs)))) kn = some (.frz od (.dK (knV rs))) := upd_same
    -- the heap that the loop keeps
    have hG : ∃ G : Hp, G = upd H kn (.frz od (.dK (knV rs))) := ⟨_, rfl⟩
    obtain ⟨G, eG⟩ := hG
    have Gk : G kn = some (.frz od (.dK (knV rs))) := by rw [eG, upd_same]
    have Gd : G d = none := by rw [eG, upd_ne ndk.symm]; exact nd
    have Gr : ∀ q ∈ rs, G q.1 = some (.tup (rowV q.2)) := fun q hq => by
      rw [eG, upd_ne (ne_of (hrs q hq) hk (fun z => by cases z))]
      exact hrs q hq
    have s0 : Same G (upd (upd H d (.dK [])) kn (.frz od (.dK (knV rs)))) := fun b o e => by
      rw [eG] at e
      by_cases hb : b = kn
      · rw [hb, upd_same] at e
        rw [hb, upd_same]
        exact e
      · rw [upd_ne hb] at e
        rw [upd_ne hb, upd_ne (ne_of_none e nd)]
        exact e
    have hd0 : (upd (upd H d (.dK [])) kn (.frz od (.dK (knV rs)))) d = some (.dK []) := by rw [upd_ne ndk.symm, upd_same]
    walk_at "go"
    refine ⟨kn, od, knV rs, rfl, hk2, VrX.for_J (n := rs.length) (fun i σ H' => (∃ ds, DInv G H' d (revT (rs.take i)) (rwN (rs.take i)) ds) ∧ ∃ v2 v3 v4 v5 v6 v7, σ = [some (.ref kn), some (.ref d), v2, v3, v4, v5, v6, v7])
      ⟨⟨[], s0, Gd, hd0, rfl, List.nodup_nil, fun q hq => (by cases hq), fun q hq => (by cases hq)⟩, _, _, _, _, _, _, rfl⟩
      (fun _ _ h => let ⟨ds, D⟩ := h.1; ⟨D.same _ _ Gk, by rw [List.length_map]; exact Nat.le_refl _⟩) (fun i _ _ hi h => let ⟨ds, D⟩ := h.1; ⟨D.same _ _ Gk, by rw [List.length_map]; exact hi⟩) ?_ ?_⟩
    · rintro i y σ H1 H2 hi ⟨⟨ds, D⟩, v2, v3, v4, v5, v6, v7, rfl⟩ ⟨tp, kk, vv, hkv, rfl, ntp, rfl⟩
      rw [List.getElem?_map, List.getElem?_eq_getElem hi] at hkv
      obtain ⟨rfl, rfl⟩ : (Sum.inr rs[i].2.name : Key) = kk ∧ V.ref rs[i].1 = vv := by
        have := Option.some.inj hkv
        exact ⟨congrArg Prod.fst this, congrArg Prod.snd this⟩
      have hmem : rs[i] ∈ rs := List.getElem_mem hi
      generalize hrow : rs[i] = q at hmem
      obtain ⟨ra, r⟩ := q
      have hgi : rs[i]? = some (ra, r) := by rw [List.getElem?_eq_getElem hi, hrow]
      refine Sx.gtup (SqT.of upd_same) rfl ?_
      walk_at "go"
      intro L nL
      have Wi : Nt.WF (r :: revT (rs.take i)) := by
        have h1 := Nt.wf_take (rows := rs.map (·.2)) W (i := i) (by rw [List.length_map]; exact hi)
        rw [← List.map_take, List.take_succ, hgi] at h1
        simpa [revT] using h1
      have eT : ∀ x, x ∈ rwN (rs.take i) ↔ x ∈ Nt.names (revT (rs.take i)) := fun x => by rw [names_revT, List.mem_reverse]
      have rn : r.name ∉ rwN (rs.take i) := fun z => by
        rcases Wi.row with ⟨e1, _⟩ | ⟨_, p, _, _, z2, _⟩
        · rw [eT, e1] at z
          simp [Nt.names] at z
        · exact z2 ((eT _).mp z)
      have s12 : Same H1 (upd (upd H1 tp (.tup [kV (Sum.inr r.name), V.ref ra])) L (.dK [])) := Sx.same_new (Sx.same_new (Sx.same_rfl _) ntp) (Sx.new_none (Sx.same_new (Sx.same_rfl _) ntp) nL)
      have nL1 : H1 L = none := Sx.new_none (Sx.same_new (Sx.same_rfl _) ntp) nL
      have hLd : L ≠ d := fun z => by rw [z, D.hd] at nL1; cases nL1
      have hLds : ∀ q ∈ ds, q.2 ≠ L := fun q hq z => by
        obtain ⟨kva, h1, _⟩ := D.tab q hq
        rw [z, nL1] at h1
        cases h1
      have gL : G L = none := Sx.new_none D.same nL1
      have I0 : DIn G _ d L (revT (rs.take i)) (rwN (rs.take i)) ds r 0 := D.toIn s12 upd_same
      generalize upd (upd H1 tp (.tup [kV (Sum.inr r.name), V.ref ra])) L (.dK []) = H2 at I0
      walk_at "go"
      refine ⟨d, dsV ds, rfl, Rd.of I0.hd, fun p np => ?_⟩
      have I1 : DIn G _ d L (revT (rs.take i)) (rwN (rs.take i)) ds r 0 := I0.keep (Sx.same_new (Sx.same_rfl _) np) (H2 := upd H2 p (.lst ((dsV ds).map fun kv => kV kv.1)))
      have hp1 : (upd H2 p (.lst ((dsV ds).map fun kv => kV kv.1))) p = some (.lst ((dsV ds).map fun kv => kV kv.1)) := upd_same
      have npd : d ≠ p := ne_of_none I0.hd np
      have npL : L ≠ p := let ⟨_, h1, _⟩ := I0.hL; ne_of_none h1 np
      have npds : ∀ q ∈ ds, q.2 ≠ p := fun q hq => by
        obtain ⟨m, hm⟩ := List.getElem?_of_mem hq
        obtain ⟨kva, h1, _⟩ := I0.tab m q hm
        exact ne_of_none h1 np
      generalize upd H2 p (.lst ((dsV ds).map fun kv => kV kv.1)) = H3 at I1 hp1
      walk_at "go"
      refine ⟨p, rfl, ⟨_, SqL.of hp1⟩, VrX.for_J (n := ds.length) (fun j σ H' => DIn G H' d L (revT (rs.take i)) (rwN (rs.take i)) ds r j ∧ H' p = some (.lst ((dsV ds).map fun kv => kV kv.1)) ∧ ∃ v5 v6 v7, σ = [some (.ref kn), some (.ref d), some (.str r.name), some (.ref ra), some (.ref L), v5, v6, v7])
        ⟨I1, hp1, _, _, _, rfl⟩ (fun _ _ h => ⟨_, SqL.of h.2.1, by rw [List.length_map, List.length_map]; exact Nat.le_refl _⟩) (fun j _ _ hj h => ⟨_, _, SqL.of h.2.1, List.getElem?_eq_getElem (by rw [List.length_map, List.length_map]; exact hj)⟩) ?_ ?_⟩
      · rintro j y σ H4 H5 hj ⟨I, hp, v5, v6, v7, rfl⟩ ⟨rfl, hy⟩
        have hy2 := hy _ (SqL.of hp)
        have hq : ds[j]? = some ds[j] := List.getElem?_eq_getElem hj
        generalize ds[j] = q at hq
        rw [List.getElem?_map, List.getElem?_map, hq] at hy2
        obtain rfl : V.str q.1 = y := Option.some.inj hy2
        have hqm := List.mem_of_getElem? hq
        have hqn : q.1 ∈ rwN (rs.take i) := by rw [← D.nms]; exact List.mem_map.mpr ⟨q, hqm, rfl⟩
        rcases Wi.row with ⟨e1, _⟩ | ⟨W2, e, he, hep, _⟩
        · have := (eT q.1).mp hqn
          rw [e1] at this
          simp [Nt.names] at this
        · obtain ⟨qe, hqe, eqe⟩ : ∃ qe ∈ ds, qe.1 = e := by
            have := (eT e).mpr hep
            rw [← D.nms] at this
            obtain ⟨z, hz, ez⟩ := List.mem_map.mp this
            exact ⟨z, hz, ez⟩
          have nn : (ds.map (·.1)).Nodup := by
            rw [D.nms]
            have h1 := W2.nodup
            have e3 := names_revT (rs.take i)
            rw [e3] at h1
            exact (List.reverse_perm _).nodup_iff.mp h1
          obtain ⟨me, hme⟩ := List.getElem?_of_mem hqe
          obtain ⟨kve, g1, g2, g3, _⟩ := I.tab me qe hme
          obtain ⟨kva, u1, u2, u3, _⟩ := I.tab j q hq
          obtain ⟨kvl, l1, l2, l3⟩ := I.hL
          have hra := I.same _ _ (Gr _ hmem)
          have hil : i ≤ 100 := by omega
          have hln2 : (rwN (rs.take i)).length ≤ 100 := by rw [List.length_map, List.length_take]; omega
          have hjl : j ≤ 100 := by
            have : ds.length = (rwN (rs.take i)).length := by rw [← D.nms, List.length_map]
            omega
          walk_at "go"
          refine Sx.ixT (SqT.of hra) (v := .str e) (atI_nat (j := 1) (by show some (evV r.elder) = _; rw [he]; rfl)) ?_
          refine Sx.dgS I.hd (by rw [← eqe]; exact dsV_at nn hqe) ?_
          walk_at "go"
          refine Sx.dgS g1 (by have := g3 q.1 hqn; rw [eqe] at this; exact this) ?_
          walk_at "go"
          refine Sx.ixT (SqT.of hra) (v := .int r.de) (atI_nat (j := 3) rfl) ?_
          walk_at "go"
          refine Sx.dpS l1 (by omega) ?_
          walk_at "go"
          refine Sx.dgS (by rw [upd_ne hLd.symm]; exact I.hd) (dsV_at nn hqm) ?_
          walk_at "go"
          refine Sx.dpS (by rw [upd_ne (hLds q hqm)]; exact u1) (by rw [if_neg (Nat.lt_irrefl _)] at u2; omega) ?_
          refine ⟨I.step hLd hLds gL D.fr D.nd D.nms rn hq he l1 u1, ?_, _, _, _, rfl⟩
          rw [upd_ne (npds q hqm).symm, upd_ne npL.symm]
          exact hp
      · rintro σ H4 ⟨I, hp, v5, v6, v7, rfl⟩
        obtain ⟨kvl, l1, l2, l3⟩ := I.hL
        have hdl : ds.length ≤ 100 := by
          have : ds.length = (rwN (rs.take i)).length := by rw [← D.nms, List.length_map]
          rw [List.length_map, List.length_take] at this
          omega
        walk_at "go"
        refine Sx.dpS l1 (by omega) ?_
        walk_at "go"
        refine Sx.dpS (by rw [upd_ne hLd.symm]; exact I.hd) (by rw [List.length_map]; omega) ?_
        refine ⟨⟨ds ++ [(r.name, L)], ?_⟩, _, _, _, _, _, _, rfl⟩
        have := I.done Wi eT D.gd hLd hLds gL D.fr D.nd D.nms rn l1
        have e1 : revT (rs.take (i + 1)) = r :: revT (rs.take i) := by
          rw [List.take_succ, hgi]
          simp [revT]
        have e2 : rwN (rs.take (i + 1)) = rwN (rs.take i) ++ [r.name] := by
          rw [List.take_succ, hgi]
          simp [rwN]
        rw [e1, e2]
        exact this
    · rintro σ H' ⟨⟨ds, D⟩, v2, v3, v4, v5, v6, v7, rfl⟩
      rw [List.take_length] at D
      refine ⟨D.same _ _ Gk, ?_⟩
      walk_at "go"
      have dk : d ≠ kn := ndk.symm
      refine k d _ (fun b o e => ?_) ⟨dsV ds, by rw [upd_ne dk]; exact D.hd, fun a ha => ?_⟩
      · by_cases hb : b = kn
        · rw [hb, hk] at e
          rw [hb, upd_same]
          exact e
        · rw [upd_ne hb]
          exact D.same _ _ (by rw [eG, upd_ne hb]; exact e)
      · rw [← D.nms] at ha
        obtain ⟨q, hq, rfl⟩ := List.mem_map.mp ha
        obtain ⟨kva, h1, h2, h3⟩ := D.tab q hq
        have nn : (ds.map (·.1)).Nodup := by
          rw [D.nms]
          have := W.nodup
          have e := names_revT rs
          rw [e] at this
          exact (List.reverse_perm (rwN rs)).nodup_iff.mp this
        refine ⟨q.2, kva, dsV_at nn hq, by rw [upd_ne (fun z => by have := (D.fr q hq).1; rw [z, Gk] at this; cases this)]; exact h1, fun b hb => ⟨_, h3 b hb, rfl⟩⟩
end
end Wk

set_option Elab.async false
set_option linter.all false
set_option maxRecDepth 100000
set_option maxHeartbeats 2000000
namespace Wk
open PySem PySem.Spec PyProof.Rows L2 NdefX SuX Hk
local macro_rules | `(tactic| walk_at "st") => `(tactic| first
  | with_reducible refine Sx.ret ?_
  | with_reducible refine Sx.retN ?_
  | with_reducible refine Sx.seq ?_
  | with_reducible refine Sx.next ?_
  | with_reducible refine Sx.brk ?_
  | with_reducible refine Sx.cont ?_
  | with_reducible refine Sx.drop ?_
  | with_reducible refine Sx.asg ?_
  | with_reducible refine Sx.gname ?_
  | with_reducible refine Sx.ifS ?_
  | with_reducible refine Sx.var ?_
  | with_reducible refine Sx.con ?_
  | with_reducible refine Sx.op ?_
  | with_reducible refine Sx.un ?_
  | with_reducible refine Sx.cb ?_
  | with_reducible refine Sx.cons ?_
  | with_reducible refine Sx.nil ?_
  | with_reducible refine Sx.call ?_
  | with_reducible refine Sx.test ?_
  | with_reducible refine Sx.tb_ ?_
  | with_reducible refine Sx.bl ?_
  | with_reducible refine Sx.and_ ?_
  | with_reducible refine Sx.or_ ?_
  | with_reducible refine Sx.not_ ?_
  | with_reducible refine Sx.andV ?_
  | with_reducible refine Sx.orV ?_
  | with_reducible refine Sx.notV ?_
  | with_reducible refine Sx.ife ?_
  | with_reducible refine Sx.i0 ?_
  | with_reducible refine Sx.iU ?_
  | with_reducible refine Sx.eqI ?_
  | with_reducible refine Sx.eqS ?_
  | with_reducible refine Sx.neI ?_
  | with_reducible refine Sx.neS ?_
  | with_reducible refine Sx.isN' ?_
  | with_reducible refine Sx.chain ?_
  | with_reducible refine Sx.aug ?_
  | with_reducible refine Sx.ipI' ?_
  | with_reducible refine Sx.ifT ?_
  | with_reducible refine Sx.ifF ?_
  | with_reducible refine Sx.ifnF ?_
  | with_reducible refine Sx.ifnT ?_
  | with_reducible refine Sx.tup ?_
  | with_reducible refine Sx.lst ?_
  | with_reducible refine Sx.fld ?_
  | with_reducible refine Sx.sfld ?_
  | with_reducible refine Sx.meth ?_
  | with_reducible refine Sx.app ?_
  | with_reducible refine Sx.gcons ?_
  | with_reducible refine Sx.gnil ?_
  | with_reducible refine Sx.dget ?_
  | with_reducible refine Sx.din ?_
  | with_reducible refine Sx.dnin ?_
  | with_reducible refine Sx.dput ?_
  | with_reducible refine Sx.forS ?_
  | with_reducible refine Sx.ikeys ?_
  | with_reducible refine Sx.ienumT ?_
  | with_reducible refine Sx.scT ?_
  | with_reducible refine Sx.dc2 ?_
  | with_reducible refine Sx.tru ?_
  | with_reducible refine Sx.mv ?_
  | with_reducible refine Sx.cv ?_
  | with_reducible refine Sx.cw ?_
  | with_reducible refine Sx.join ?_
  | with_reducible refine Sx.lc ?_
  | with_reducible refine Sx.istr ?_
  | with_reducible refine Sx.ilist ?_
  | with_reducible refine Sx.itup ?_
  | with_reducible refine Sx.irng1 ?_
  | with_reducible refine Sx.irng2 ?_
  | with_reducible refine Sx.ienum ?_
  | with_reducible refine Sx.izip ?_
  | with_reducible refine Sx.irev ?_
  | with_reducible refine Sx.iitems ?_
  | with_reducible refine Sx.yes ?_
  | with_reducible refine Sx.js_cons ?_
  | with_reducible refine Sx.js_nil ?_
  | with_reducible refine Sx.fmt ?_
  | with_reducible refine Sx.isi_int ?_
  | with_reducible refine Sx.isi_intb ?_
  | with_reducible refine Sx.isi_str ?_)
local macro_rules | `(tactic| walk_at "go") => `(tactic| repeat walk_at "st")
local macro_rules | `(tactic| walk_at "is") => `(tactic| simp only [Option.isSome_some, Option.isSome_none, Bool.not_true, Bool.not_false])
/-! _all_kappas. -/
section
variable {P : Program} {w : World} {K : PySem.W.Frag} {mg : Str → Option Value} {base : Heap}
theorem valV_mem {κ : Type} [DecidableEq κ] {kvs : List (κ × V)} {k : κ} {v : V} (h : valV kvs k = some v) : (k, v) ∈ kvs := by
  unfold valV at h
  obtain ⟨p, hp, e⟩ := Option.map_eq_some_iff.mp h
  have h1 := List.mem_of_find?_eq_some hp
  have h2 := List.find?_some hp
  have h3 : p.1 = k := of_decide_eq_true h2
  rw [← h3, ← e]
  exact h1
theorem knV_mem {rs : List (Addr × Rw)} {k : Key} {v : V} (h : valV (knV rs) k = some v) : ∃ q ∈ rs, k = Sum.inr q.2.name ∧ v = .ref q.1 := by
  obtain ⟨q, hq, e⟩ := List.mem_map.mp (valV_mem h)
  exact ⟨q, hq, (congrArg Prod.fst e).symm, (congrArg Prod.snd e).symm⟩
/-- the lines made so far, each under its name -/
structure KInv (G H' : Hp) (kp : Addr) (T : List Rw) (all nm : List Str) (ds : List (Str × Addr)) : Prop where
  same : Same G H'
  hk : H' kp = some (.dK (dsV ds))
  nms : ds.map (·.1) = nm
  tab : ∀ q ∈ ds, ∃ kva, H' q.2 = some (.dK kva) ∧ q.2 ≠ kp ∧ ∀ b ∈ all, ∃ v, valV kva (Sum.inr b) = some v ∧ RK T H' q.1 b v
theorem KInv.keep {G H1 H2 : Hp} {kp : Addr} {T : List Rw} {all nm : List Str} {ds : List (Str × Addr)} (D : KInv G H1 kp T all nm ds) (s : Same H1 H2) : KInv G H2 kp T all nm ds :=
  ⟨Sx.same_tr D.same s, s _ _ D.hk, D.nms, fun q hq => let ⟨kva, h1, h2, h3⟩ := D.tab q hq; ⟨kva, s _ _ h1, h2, fun b hb => let ⟨v, h4, h5⟩ := h3 b hb; ⟨v, h4, h5.same s⟩⟩⟩
def sp_all_kappas : Sp := fun vs H Q _ => ∃ (k d : Addr) (rs : List (Addr × Rw)), vs = [.ref k, .ref d] ∧ H k = some (.dK (knV rs)) ∧ RowsAt H rs ∧ Nt.WF (revT rs) ∧ rs.length ≤ 100 ∧ TabAt H d (rwN rs) (rwN rs) (RD (revT rs)) ∧ (∀ q ∈ rs, 0 ≤ q.2.er ∧ q.2.er ≤ 100) ∧
  ∀ (d : Addr) (H' : Hp), Same H H' → TabAt H' d (rwN rs) (rwN rs) (RK (revT rs)) → Q (.ref d) H'
theorem ok_all_kappas (T : Tx K mg) : O__all_kappas P w K mg base 1 sp_all_kappas := by
  refine T.F__all_kappas.ok sc__all_kappas (fun vs H Q E h => ?_) (fun cdv A outer s H vs Q E hr h => ?_)
  · obtain ⟨k, d, rs, rfl, _⟩ := h
    rfl
  · obtain ⟨kn, d, rs, rfl, hk, hrs, W, hln, ⟨kvd, hd, hdt⟩, her, k⟩ := h
    refine ⟨_, PSs.nox ((pss_cons (ps_set (i := 2) sc__all_kappas.nd rfl (Or.inl rfl) (pe_dnewK)) (pss_cons (ps_lock (ps_for PassesOwn.never rfl (pi_items (pv 0)) (show PG _ _ (gTup K 2 _) from pg_tup rfl (pgs_cons (pg_name (i := 3) sc__all_kappas.nd rfl (Or.inl rfl)) (pgs_cons (pg_name (i := 4) sc__all_kappas.nd rfl (Or.inl rfl)) pgs_nil))) (pss_cons (ps_set (i := 5) sc__all_kappas.nd rfl (Or.inl rfl) (pe_dnewK)) (pss_cons (ps_for PassesOwn.never rfl (pi_keys (pv 0)) (pg_name (i := 6) sc__all_kappas.nd rfl (Or.inl rfl)) (pss_cons (ps_set (i := 7) sc__all_kappas.nd rfl (Or.inl rfl) (pe_tup (pa_cons (pe_ifExp (pt_cmpR op_eq (pv 6) (pv 3) (nomark _)) (pe_un un_neg (pe_int)) (pe_op op_add (pe_op op_mul (pe_int) (pe_ix (Kw.ixT K) (pv 4) (pe_int) (fun _ _ => rfl))) (pe_dget (hu_of hr) (pe_dget (hu_of hr) (pv 1) (pv 3) (fun _ _ => rfl)) (pv 6) (fun _ _ => rfl)))) (pa_cons (pv 3) pa_nil)))) (pss_cons (ps_if (pt_cmpR op_notN (pe_ix (Kw.ixT K) (pv 4) (pe_int) (fun _ _ => rfl)) pe_non (nomark _)) (pss_cons (ps_set (i := 8) sc__all_kappas.nd rfl (Or.inl rfl) (pe_dget (hu_of hr) (pe_dget (hu_of hr) (pv 2) (pe_ix (Kw.ixT K) (pv 4) (pe_int) (fun _ _ => rfl)) (fun _ _ => rfl)) (pv 6) (fun _ _ => rfl))) (pss_one (ps_if (pt_cmpR op_lt (pe_ix (Kw.ixT K) (pv 8) (pe_int) (fun _ _ => rfl)) (pe_ix (Kw.ixT K) (pv 7) (pe_int) (fun _ _ => rfl)) (nomark _)) (pss_one (ps_set (i := 7) sc__all_kappas.nd rfl (Or.inl rfl) (pv 8))) pss_nil))) pss_nil) (pss_one (ps_dput (hu_of hr) (pv 5) (pv 6) (pv 7) rfl))))) (pss_one (ps_dput (hu_of hr) (pv 2) (pv 3) (pv 5) rfl)))))) (pss_one (ps_ret (pv 2)))))), ?_⟩
    walk_at "go"
    intro kp nk
    walk_at "go"
    have ndk : kn ≠ kp := ne_of_none hk nk
    have hk1 : (upd H kp (.dK [])) kn = some (.dK (knV rs)) := by rw [upd_ne ndk]; exact hk
    refine ⟨kn, _, hk1, trivial, fun od => ?_⟩
    have hk2 : (upd (upd H kp (.dK [])) kn (.frz od (.dK (knV rs)))) kn = some (.frz od (.dK (knV rs))) := upd_same
    have hG : ∃ G : Hp, G = upd H kn (.frz od (.dK (knV rs))) := ⟨_, rfl⟩
    obtain ⟨G, eG⟩ := hG
    have Gk : G kn = some (.frz od (.dK (knV rs))) := by rw [eG, upd_same]
    have Gp : G kp = none := by rw [eG, upd_ne ndk.symm]; exact nk
    have Go : ∀ b o, H b = some o → b ≠ kn → G b = some o := fun b o e hb => by rw [eG, upd_ne hb]; exact e
    have Gr : ∀ q ∈ rs, G q.1 = some (.tup (rowV q.2)) := fun q hq => Go _ _ (hrs q hq) (ne_of (hrs q hq) hk (fun z => by cases z))
    -- the distances stand in G: a dict that is no list of rows
    have tG : ∀ a ∈ rwN rs, ∀ b ∈ rwN rs, ∃ l kva, G d = some (.dK kvd) ∧ valV kvd (Sum.inr a) = some (V.ref l) ∧ G l = some (.dK kva) ∧ valV kva (Sum.inr b) = some (.int (Nt.D (revT rs) a b)) := by
      intro a ha b hb
      obtain ⟨l, kva, h1, h2, h3⟩ := hdt a ha
      obtain ⟨v, h4, h5⟩ := h3 b hb
      have h5 : v = .int (Nt.D (revT rs) a b) := h5
      subst h5
      refine ⟨l, kva, Go _ _ hd fun z => ?_, h1, Go _ _ h2 fun z => ?_, h4⟩
      · rw [z, hk] at hd
        obtain rfl : knV rs = kvd := HO.dK.inj (Option.some.inj hd)
        obtain ⟨q, hq, _, e⟩ := knV_mem h1
        obtain rfl : l = q.1 := V.ref.inj e
        rw [hrs q hq] at h2
        cases h2
      · rw [z, hk] at h2
        obtain rfl : knV rs = kva := HO.dK.inj (Option.some.inj h2)
        obtain ⟨q, hq, _, e⟩ := knV_mem h4
        cases e
    have s0 : Same G (upd (upd H kp (.dK [])) kn (.frz od (.dK (knV rs)))) := fun b o e => by
      rw [eG] at e
      by_cases hb : b = kn
      · rw [hb, upd_same] at e
        rw [hb, upd_same]
        exact e
      · rw [upd_ne hb] at e
        rw [upd_ne hb, upd_ne (ne_of_none e nk)]
        exact e
    have hp0 : (upd (upd H kp (.dK [])) kn (.frz od (.dK (knV rs)))) kp = some (.dK []) := by rw [upd_ne ndk.symm, upd_same]
    have nnd : (rwN rs).Nodup := by
      have := W.nodup
      rw [names_revT] at this
      exact (List.reverse_perm (rwN rs)).nodup_iff.mp this
    have mT : ∀ q ∈ rs, q.2 ∈ revT rs := fun q hq => List.mem_reverse.mpr (List.mem_map.mpr ⟨q, hq, rfl⟩)
    have nT : ∀ x, x ∈ Nt.names (revT rs) ↔ x ∈ rwN rs := fun x => by rw [names_revT, List.mem_reverse]
    generalize upd (upd H kp (.dK [])) kn (.frz od (.dK (knV rs))) = H0 at hk2 s0 hp0
    walk_at "go"
    refine ⟨kn, od, knV rs, rfl, hk2, VrX.for_J (n := rs.length) (fun i σ H' => (∃ ds, KInv G H' kp (revT rs) (rwN rs) (rwN (rs.take i)) ds) ∧ ∃ v3 v4 v5 v6 v7 v8, σ = [some (.ref kn), some (.ref d), some (.ref kp), v3, v4, v5, v6, v7, v8])
      ⟨⟨[], s0, hp0, rfl, fun q hq => (by cases hq)⟩, _, _, _, _, _, _, rfl⟩
      (fun _ _ h => let ⟨ds, D⟩ := h.1; ⟨D.same _ _ Gk, by rw [List.length_map]; exact Nat.le_refl _⟩) (fun i _ _ hi h => let ⟨ds, D⟩ := h.1; ⟨D.same _ _ Gk, by rw [List.length_map]; exact hi⟩) ?_ ?_⟩
    · rintro i y σ H1 H2 hi ⟨⟨ds, D⟩, v3, v4, v5, v6, v7, v8, rfl⟩ ⟨tp, kk, vv, hkv, rfl, ntp, rfl⟩
      rw [List.getElem?_map, List.getElem?_eq_getElem hi] at hkv
      obtain ⟨rfl, rfl⟩ : (Sum.inr rs[i].2.name : Key) = kk ∧ V.ref rs[i].1 = vv := by
        have := Option.some.inj hkv
        exact ⟨congrArg Prod.fst this, congrArg Prod.snd this⟩
      have hmem : rs[i] ∈ rs := List.getElem_mem hi
      generalize hrow : rs[i] = q at hmem
      obtain ⟨ra, r⟩ := q
      have hgi : rs[i]? = some (ra, r) := by rw [List.getElem?_eq_getElem hi, hrow]
      have hrn : r.name ∈ rwN rs := List.mem_map.mpr ⟨_, hmem, rfl⟩
      obtain ⟨he1, he2⟩ := her _ hmem
      refine Sx.gtup (SqT.of upd_same) rfl ?_
      walk_at "go"
      intro L nL
      have D2 := (D.keep (Sx.same_new (Sx.same_rfl _) ntp)).keep (Sx.same_new (Sx.same_rfl _) nL) (H2 := upd (upd H1 tp (.tup [kV (Sum.inr r.name), V.ref ra])) L (.dK []))
      have hLp : L ≠ kp := (ne_of_none (D.keep (Sx.same_new (Sx.same_rfl _) ntp)).hk nL).symm
      have gL : G L = none := Sx.new_none (D.keep (Sx.same_new (Sx.same_rfl _) ntp)).same nL
      have hL0 : (upd (upd H1 tp (.tup [kV (Sum.inr r.name), V.ref ra])) L (.dK [])) L = some (.dK []) := upd_same
      -- the heap without the new line
      have s3 : Same (upd H1 tp (.tup [kV (Sum.inr r.name), V.ref ra])) (upd (upd H1 tp (.tup [kV (Sum.inr r.name), V.ref ra])) L (.dK [])) := Sx.same_new (Sx.same_rfl _) nL
      have D3 := D.keep (Sx.same_new (Sx.same_rfl H1) ntp) (H2 := upd H1 tp (.tup [kV (Sum.inr r.name), V.ref ra]))
      generalize upd (upd H1 tp (.tup [kV (Sum.inr r.name), V.ref ra])) L (.dK []) = H3 at D2 hL0 s3
      generalize upd H1 tp (.tup [kV (Sum.inr r.name), V.ref ra]) = H2 at D3 s3 nL
      walk_at "go"
      refine ⟨kn, od, rfl, .inl ⟨knV rs, D2.same _ _ Gk, VrX.for_J (n := rs.length) (fun j σ H' => Same H2 H' ∧ (∃ kvl, H' L = some (.dK kvl) ∧ kvl.length ≤ j ∧ ∀ b ∈ (rwN rs).take j, ∃ v, valV kvl (Sum.inr b) = some v ∧ RK (revT rs) H' r.name b v) ∧ ∃ v6 v7 v8, σ = [some (.ref kn), some (.ref d), some (.ref kp), some (.str r.name), some (.ref ra), some (.ref L), v6, v7, v8])
        ⟨s3, ⟨[], hL0, Nat.le_refl _, fun b hb => by cases hb⟩, _, _, _, rfl⟩
        (fun _ _ h => ⟨h.1 _ _ (D3.same _ _ Gk), by rw [List.length_map]; exact Nat.le_refl _⟩) (fun j _ _ hj h => ⟨h.1 _ _ (D3.same _ _ Gk), by rw [List.length_map]; exact hj⟩) ?_ ?_⟩⟩
      · rintro j y σ H4 H5 hj ⟨s4, ⟨kvl, l1, l2, l3⟩, v6, v7, v8, rfl⟩ ⟨rfl, kk, vv, hkv, hy⟩
        rw [List.getElem?_map, List.getElem?_eq_getElem hj] at hkv
        obtain rfl : (Sum.inr rs[j].2.name : Key) = kk := congrArg Prod.fst (Option.some.inj hkv)
        have hy : y = V.str rs[j].2.name := hy
        subst hy
        have hbn : rs[j].2.name ∈ rwN rs := List.mem_map.mpr ⟨_, List.getElem_mem hj, rfl⟩
        have hbj : (rwN rs)[j]? = some rs[j].2.name := by rw [List.getElem?_map, List.getElem?_eq_getElem hj]; rfl
        generalize rs[j].2.name = b at hbn hbj
        have hra := s4 _ _ (D3.same _ _ (Gr _ hmem))
        obtain ⟨la, kva, t1, t2, t3, t4⟩ := tG r.name hrn b hbn
        have own_eq : Nt.own (revT rs) b r.name = if b = r.name then -1 else 2 * r.er + Nt.D (revT rs) r.name b := by
          unfold Nt.own
          rw [(W.er_of r (mT _ hmem)).1]
          by_cases hbr : b = r.name
          · rw [if_pos hbr, if_pos hbr.symm]
          · rw [if_neg hbr, if_neg fun z => hbr z.symm]
        have hjl : kvl.length ≤ 100 := by omega
        have t1' := s4 _ _ (D3.same _ _ t1)
        have t3' := s4 _ _ (D3.same _ _ t3)
        walk_at "go"
        have D5 := D3.keep s4
        -- the line's next entry, behind the best pair at t
        have fin : ∀ (H6 : Hp) (t : Addr) (p : Str), Same H5 H6 → H6 t = some (.tup [.int (Nt.K (revT rs) r.name b), .str p]) → Same H2 (upd H6 L (.dK (putK kvl (Sum.inr b) (V.ref t)))) ∧
            (∃ kvl', (upd H6 L (.dK (putK kvl (Sum.inr b) (V.ref t)))) L = some (.dK kvl') ∧ kvl'.length ≤ j + 1 ∧ ∀ b' ∈ (rwN rs).take (j + 1), ∃ v, valV kvl' (Sum.inr b') = some v ∧ RK (revT rs) (upd H6 L (.dK (putK kvl (Sum.inr b) (V.ref t)))) r.name b' v) := by
          intro H6 t p s6 ht
          have rk : ∀ {a b : Str} {v : V}, RK (revT rs) H6 a b v → RK (revT rs) (upd H6 L (.dK (putK kvl (Sum.inr b) (V.ref t)))) a b v → True := fun _ _ => True.intro
          refine ⟨Sx.same_new (Sx.same_tr s4 s6) nL, _, upd_same, Nat.le_trans (length_putK _ _ _) (Nat.succ_le_succ l2), fun b' hb' => ?_⟩
          rw [valV_put]
          by_cases hbb : b' = b
          · rw [hbb, if_pos rfl]
            exact ⟨_, rfl, t, p, rfl, by rw [upd_ne (ne_of ht (s6 _ _ l1) (fun z => by cases z))]; exact ht⟩
          · rw [if_neg fun z => hbb (Sum.inr.inj z)]
            rw [List.take_succ, hbj] at hb'
            rcases List.mem_append.mp hb' with z | z
            · obtain ⟨v, h4, t5, p5, rfl, h6⟩ := l3 b' z
              exact ⟨_, h4, t5, p5, rfl, by rw [upd_ne (ne_of h6 l1 (fun z => by cases z))]; exact s6 _ _ h6⟩
            · exact absurd (List.mem_singleton.mp z) hbb
        refine Sx.ifd (fun c => ?_) (fun c => ?_)
        have en : Nt.own (revT rs) b r.name = -1 := by rw [own_eq, if_pos c]
        walk_at "go"
        rw [← en]
        rotate_left 1
        have en : Nt.own (revT rs) b r.name = 2 * r.er + Nt.D (revT rs) r.name b := by rw [own_eq, if_neg c]
        walk_at "go"
        refine Sx.ixT (SqT.of hra) (v := .int r.er) (atI_nat (j := 2) rfl) ?_
        refine Sx.iC (.inl ⟨by decide, by decide⟩) ?_
        walk_at "go"
        refine Sx.dgS t1' t2 ?_
        walk_at "go"
        refine Sx.dgS t3' t4 ?_
        walk_at "go"
        rw [← en]
        all_goals
          refine Sx.nw (by show 2 ≤ _; decide) fun t nt => ?_
          have s6 : Same H5 (upd H5 t (.tup [V.int (Nt.own (revT rs) b r.name), V.str r.name])) := Sx.same_new (Sx.same_rfl _) nt
          have ht6 : (upd H5 t (.tup [V.int (Nt.own (revT rs) b r.name), V.str r.name])) t = some (.tup [V.int (Nt.own (revT rs) b r.name), V.str r.name]) := upd_same
          generalize upd H5 t (.tup [V.int (Nt.own (revT rs) b r.name), V.str r.name]) = H6 at s6 ht6
          walk_at "go"
          rcases Nt.WF.K_of W (mT _ hmem) b with ⟨k1, k2⟩ | ⟨e, k1, k2, k3⟩
          · refine Sx.ixT (SqT.of (s6 _ _ hra)) (v := .non) (atI_nat (j := 1) (by show some (evV r.elder) = _; rw [k1]; rfl)) ?_
            walk_at "go"
            refine Sx.ndT rfl ?_
            walk_at "go"
            refine Sx.dpS (s6 _ _ l1) (by omega) ?_
            have := fin H6 t r.name s6 (by rw [k2]; exact ht6)
            exact ⟨this.1, this.2, _, _, _, rfl⟩
          · refine Sx.ixT (SqT.of (s6 _ _ hra)) (v := .str e) (atI_nat (j := 1) (by show some (evV r.elder) = _; rw [k1]; rfl)) ?_
            walk_at "go"
            refine Sx.ndF (fun z => by cases z) ?_
            walk_at "go"
            refine Sx.ixT (SqT.of (s6 _ _ hra)) (v := .str e) (atI_nat (j := 1) (by show some (evV r.elder) = _; rw [k1]; rfl)) ?_
            have hen : e ∈ rwN (rs.take i) := by
              have Wi : Nt.WF (r :: revT (rs.take i)) := by
                have h1 := Nt.wf_take (rows := rs.map (·.2)) W (i := i) (by rw [List.length_map]; exact hi)
                rw [← List.map_take, List.take_succ, hgi] at h1
                simpa [revT] using h1
              rcases Wi.row with ⟨_, z, _⟩ | ⟨_, p, z, z2, _⟩
              · rw [z] at k1
                cases k1
              · rw [k1] at z
                obtain rfl := Option.some.inj z
                rw [names_revT, List.mem_reverse] at z2
                exact z2
            obtain ⟨qe, hqe, eqe⟩ : ∃ qe ∈ ds, qe.1 = e := by
              rw [← D.nms] at hen
              obtain ⟨z, hz, ez⟩ := List.mem_map.mp hen
              exact ⟨z, hz, ez⟩
            have nn : (ds.map (·.1)).Nodup := by
              rw [D.nms]
              have h0 : ((rwN rs).take i).Nodup := List.Nodup.sublist (List.take_sublist _ _) nnd
              rw [← List.map_take] at h0
              exact h0
            obtain ⟨kve, y1, y2, y3⟩ := D5.tab qe hqe
            obtain ⟨ve, y4, te, pe, rfl, y5⟩ := y3 b hbn
            rw [eqe] at y5
            refine Sx.dgS (s6 _ _ D5.hk) (by rw [← eqe]; exact dsV_at nn hqe) ?_
            walk_at "go"
            refine Sx.dgS (s6 _ _ y1) y4 ?_
            walk_at "go"
            refine Sx.ixT (SqT.of (s6 _ _ y5)) (v := .int _) (atI_nat (j := 0) rfl) ?_
            walk_at "go"
            refine Sx.ixT (SqT.of ht6) (v := .int _) (atI_nat (j := 0) rfl) ?_
            walk_at "go"
            refine Sx.ifd (fun c2 => ?_) (fun c2 => ?_)
            · walk_at "go"
              refine Sx.dpS (s6 _ _ l1) (by omega) ?_
              have := fin H6 te pe s6 (by rw [k3, if_pos c2]; exact s6 _ _ y5)
              exact ⟨this.1, this.2, _, _, _, rfl⟩
            · walk_at "go"
              refine Sx.dpS (s6 _ _ l1) (by omega) ?_
              have := fin H6 t r.name s6 (by rw [k3, if_neg c2]; exact ht6)
              exact ⟨this.1, this.2, _, _, _, rfl⟩
      · rintro σ H4 ⟨s4, ⟨kvl, l1, l2, l3⟩, v6, v7, v8, rfl⟩
        have D4 := D3.keep s4
        walk_at "go"
        refine Sx.dpS D4.hk (by rw [List.length_map]; have := congrArg List.length D.nms; rw [List.length_map, List.length_map, List.length_take] at this; omega) ?_
        refine ⟨⟨ds ++ [(r.name, L)], ?_⟩, _, _, _, _, _, _, rfl⟩
        have e2 : rwN (rs.take (i + 1)) = rwN (rs.take i) ++ [r.name] := by
          rw [List.take_succ, hgi]
          simp [rwN]
        have rn : r.name ∉ ds.map (·.1) := by
          rw [D.nms]
          have h0 : ((rwN rs).take (i + 1)).Nodup := List.Nodup.sublist (List.take_sublist _ _) nnd
          have h1 : (rwN (rs.take (i + 1))).Nodup := by rw [← List.map_take] at h0; exact h0
          rw [e2] at h1
          exact fun z => (List.nodup_append.mp h1).2.2 _ z _ (List.mem_singleton.mpr rfl) rfl
        have s5 : Same H2 (upd H4 kp (.dK (putK (dsV ds) (Sum.inr r.name) (V.ref L)))) → True := fun _ => True.intro
        refine ⟨Sx.same_new D4.same Gp, ?_, ?_, ?_⟩
        · rw [upd_same, putK_new _ (dsV_none rn)]
          simp [dsV]
        · rw [List.map_append, D.nms, e2]
          rfl
        · have rk : ∀ {a b : Str} {v : V}, RK (revT rs) H4 a b v → RK (revT rs) (upd H4 kp (.dK (putK (dsV ds) (Sum.inr r.name) (V.ref L)))) a b v := by
            rintro a b v ⟨t, p, rfl, ht⟩
            exact ⟨t, p, rfl, by rw [upd_ne (ne_of ht D4.hk (fun z => by cases z))]; exact ht⟩
          intro q hq
          rcases List.mem_append.mp hq with z | z
          · obtain ⟨kva, h1, h2, h3⟩ := D4.tab q z
            refine ⟨kva, by rw [upd_ne h2]; exact h1, h2, fun b hb => ?_⟩
            obtain ⟨v, h4, h5⟩ := h3 b hb
            exact ⟨v, h4, rk h5⟩
          · rw [List.mem_singleton.mp z]
            refine ⟨kvl, by rw [upd_ne hLp]; exact l1, hLp, fun b hb => ?_⟩
            have hl : rs.length = (rwN rs).length := by rw [List.length_map]
            obtain ⟨v, h4, h5⟩ := l3 b (by rw [hl, List.take_length]; exact hb)
            exact ⟨v, h4, rk h5⟩
    · rintro σ H' ⟨⟨ds, D⟩, v3, v4, v5, v6, v7, v8, rfl⟩
      rw [List.take_length] at D
      refine ⟨D.same _ _ Gk, ?_⟩
      walk_at "go"
      have rk : ∀ {a b : Str} {v : V}, RK (revT rs) H' a b v → RK (revT rs) (upd H' kn (.dK (knV rs))) a b v := by
        rintro a b v ⟨t, p, rfl, ht⟩
        exact ⟨t, p, rfl, by rw [upd_ne (ne_of ht (D.same _ _ Gk) (fun z => by cases z))]; exact ht⟩
      refine k kp _ (fun b o e => ?_) ⟨dsV ds, by rw [upd_ne ndk.symm]; exact D.hk, fun a ha => ?_⟩
      · by_cases hb : b = kn
        · rw [hb, hk] at e
          rw [hb, upd_same]
          exact e
        · rw [upd_ne hb]
          exact D.same _ _ (Go _ _ e hb)
      · rw [← D.nms] at ha
        obtain ⟨q, hq, rfl⟩ := List.mem_map.mp ha
        obtain ⟨kva, h1, h2, h3⟩ := D.tab q hq
        have nn : (ds.map (·.1)).Nodup := by
          rw [D.nms]
          exact nnd
        refine ⟨q.2, kva, dsV_at nn hq, by rw [upd_ne (ne_of h1 (D.same _ _ Gk) (fun z => by cases z))]; exact h1, fun b hb => ?_⟩
        obtain ⟨v, h4, h5⟩ := h3 b hb
        exact ⟨v, h4, rk h5⟩
end
end Wk

set_option Elab.async false
set_option linter.all false
set_option maxRecDepth 100000
set_option maxHeartbeats 2000000
namespace Wk
open PySem PySem.Spec PyProof.Rows L2 NdefX SuX Hk
local macro_rules | `(tactic| walk_at "st") => `(tactic| first
  | with_reducible refine Sx.ret ?_
  | with_reducible refine Sx.retN ?_
  | with_reducible refine Sx.seq ?_
  | with_reducible refine Sx.next ?_
  | with_reducible refine Sx.brk ?_
  | with_reducible refine Sx.cont ?_
  | with_reducible refine Sx.drop ?_
  | with_reducible refine Sx.asg ?_
  | with_reducible refine Sx.gname ?_
  | with_reducible refine Sx.ifS ?_
  | with_reducible refine Sx.var ?_
  | with_reducible refine Sx.con ?_
  | with_reducible refine Sx.op ?_
  | with_reducible refine Sx.un ?_
  | with_reducible refine Sx.cb ?_
  | with_reducible refine Sx.cons ?_
  | with_reducible refine Sx.nil ?_
  | with_reducible refine Sx.call ?_
  | with_reducible refine Sx.test ?_
  | with_reducible refine Sx.tb_ ?_
  | with_reducible refine Sx.bl ?_
  | with_reducible refine Sx.and_ ?_
  | with_reducible refine Sx.or_ ?_
  | with_reducible refine Sx.not_ ?_
  | with_reducible refine Sx.andV ?_
  | with_reducible refine Sx.orV ?_
  | with_reducible refine Sx.notV ?_
  | with_reducible refine Sx.ife ?_
  | with_reducible refine Sx.i0 ?_
  | with_reducible refine Sx.iU ?_
  | with_reducible refine Sx.eqI ?_
  | with_reducible refine Sx.eqS ?_
  | with_reducible refine Sx.neI ?_
  | with_reducible refine Sx.neS ?_
  | with_reducible refine Sx.isN' ?_
  | with_reducible refine Sx.chain ?_
  | with_reducible refine Sx.aug ?_
  | with_reducible refine Sx.ipI' ?_
  | with_reducible refine Sx.ifT ?_
  | with_reducible refine Sx.ifF ?_
  | with_reducible refine Sx.ifnF ?_
  | with_reducible refine Sx.ifnT ?_
  | with_reducible refine Sx.tup ?_
  | with_reducible refine Sx.lst ?_
  | with_reducible refine Sx.fld ?_
  | with_reducible refine Sx.sfld ?_
  | with_reducible refine Sx.meth ?_
  | with_reducible refine Sx.app ?_
  | with_reducible refine Sx.gcons ?_
  | with_reducible refine Sx.gnil ?_
  | with_reducible refine Sx.dget ?_
  | with_reducible refine Sx.din ?_
  | with_reducible refine Sx.dnin ?_
  | with_reducible refine Sx.dput ?_
  | with_reducible refine Sx.forS ?_
  | with_reducible refine Sx.ikeys ?_
  | with_reducible refine Sx.ienumT ?_
  | with_reducible refine Sx.scT ?_
  | with_reducible refine Sx.dc2 ?_
  | with_reducible refine Sx.tru ?_
  | with_reducible refine Sx.mv ?_
  | with_reducible refine Sx.cv ?_
  | with_reducible refine Sx.cw ?_
  | with_reducible refine Sx.join ?_
  | with_reducible refine Sx.lc ?_
  | with_reducible refine Sx.istr ?_
  | with_reducible refine Sx.ilist ?_
  | with_reducible refine Sx.itup ?_
  | with_reducible refine Sx.irng1 ?_
  | with_reducible refine Sx.irng2 ?_
  | with_reducible refine Sx.ienum ?_
  | with_reducible refine Sx.izip ?_
  | with_reducible refine Sx.irev ?_
  | with_reducible refine Sx.iitems ?_
  | with_reducible refine Sx.yes ?_
  | with_reducible refine Sx.js_cons ?_
  | with_reducible refine Sx.js_nil ?_
  | with_reducible refine Sx.fmt ?_
  | with_reducible refine Sx.isi_int ?_
  | with_reducible refine Sx.isi_intb ?_
  | with_reducible refine Sx.isi_str ?_)
local macro_rules | `(tactic| walk_at "go") => `(tactic| repeat walk_at "st")
local macro_rules | `(tactic| walk_at "is") => `(tactic| simp only [Option.isSome_some, Option.isSome_none, Bool.not_true, Bool.not_false])
/-! Nets made and asked. -/
section
variable {P : Program} {w : World} {K : PySem.W.Frag} {mg : Str → Option Value} {base : Heap}
theorem stay_same {x : Addr} {H H' : Hp} (s : Same H H') : Stay x H H' := fun b o _ e => s b o e
theorem stay_upd {x : Addr} {H : Hp} {o : HO} : Stay x H (upd H x o) := fun b u hb e => by rw [upd_ne hb]; exact e
theorem stay_tr {x : Addr} {A B C : Hp} (h : Stay x A B) (h' : Stay x B C) : Stay x A C := fun b o hb e => h' b o hb (h b o hb e)
theorem FmAt.stay {bad : Addr → Prop} {H H' : Hp} {a x C dx : Addr} {fs : List (Str × V)} (hx : H x = some (.ins C dx fs)) (h0 : fs.lookup ("_text" : Str) = none) (s : Stay x H H') : ∀ {f : Nt.Fm}, FmAt K bad H a f → FmAt K bad H' a f := by
  have ne : ∀ {y C' dx' : Addr} {gs : List (Str × V)} {tx : V}, H y = some (.ins C' dx' gs) → gs.lookup ("_text" : Str) = some tx → y ≠ x := fun {y C' dx' gs tx} e l z => by
    rw [z, hx] at e
    have := HO.ins.inj (Option.some.inj e)
    rw [← this.2.2, h0] at l
    cases l
  intro f h
  cases f with
  | win n =>
    obtain ⟨d, tx, h1, h2⟩ := h
    exact ⟨d, tx, h1, s _ _ (ne (tx := .str tx) h2 (by kernel_rfl)) h2⟩
  | days bs p =>
    obtain ⟨d, tx, b, h1, h2, h3, h4⟩ := h
    exact ⟨d, tx, b, h1, s _ _ (ne (tx := .str tx) h2 (by kernel_rfl)) h2, s _ _ (ne_of h3 hx (fun z => by cases z)) h3, h4⟩
theorem RsAt.stay {bad : Addr → Prop} {H H' : Hp} {a x C dx : Addr} {fs : List (Str × V)} (hx : H x = some (.ins C dx fs)) (h0 : fs.lookup ("_text" : Str) = none) (s : Stay x H H') {r : Nt.Rs} (h : RsAt K bad H a r) : RsAt K bad H' a r := by
  have two : ∀ {C : Str} {f g : Nt.Fm}, TwoAt K bad H a C f g → TwoAt K bad H' a C f g := by
    rintro C f g ⟨d, tx, pe, be, b, c, h1, h2, h3⟩
    refine ⟨d, tx, pe, be, b, c, s _ _ (fun z => ?_) h1, h2.stay hx h0 s, h3.stay hx h0 s⟩
    rw [z, hx] at h1
    have := HO.ins.inj (Option.some.inj h1)
    rw [this.2.2] at h0
    have l : (tf tx pe be b c).lookup ("_text" : Str) = some (.str tx) := by kernel_rfl
    rw [h0] at l
    cases l
  cases r with
  | pl f => exact FmAt.stay hx h0 s h
  | lat f g => exact two h
  | soo f g => exact two h
  | nxt f g => exact two h
theorem TabAt.stay {H H' : Hp} {d x C dx : Addr} {fs : List (Str × V)} {A B : List Str} {R : Hp → Str → Str → V → Prop} (hx : H x = some (.ins C dx fs)) (s : Stay x H H') (hR : ∀ a b v, R H a b v → R H' a b v) (h : TabAt H d A B R) : TabAt H' d A B R := by
  obtain ⟨kvs, h1, h2⟩ := h
  refine ⟨kvs, s _ _ (ne_of h1 hx (fun z => by cases z)) h1, fun a ha => ?_⟩
  obtain ⟨l, kva, h3, h4, h5⟩ := h2 a ha
  refine ⟨l, kva, h3, s _ _ (ne_of h4 hx (fun z => by cases z)) h4, fun b hb => ?_⟩
  obtain ⟨v, h6, h7⟩ := h5 b hb
  exact ⟨v, h6, hR a b v h7⟩
/-- what a Net holds -/
abbrev nf (ra kn ds ks : Addr) : List (Str × V) := [("rest", .ref ra), ("_known", .ref kn), ("_dists", .ref ds), ("_kappas", .ref ks)]
def NetAt (K : PySem.W.Frag) (bad : Addr → Prop) (H : Hp) (n : Addr) (rs : List (Addr × Rw)) (r : Nt.Rs) : Prop := ∃ dx ra kn ds ks, H n = some (.ins (gC K "Net") dx (nf ra kn ds ks)) ∧ RsAt K bad H ra r ∧ H kn = some (.dK (knV rs)) ∧ RowsAt H rs ∧
  TabAt H ds (rwN rs) (rwN rs) (RD (revT rs)) ∧ TabAt H ks (rwN rs) (rwN rs) (RK (revT rs))
theorem NetAt.same {bad : Addr → Prop} {H H' : Hp} {n : Addr} {rs : List (Addr × Rw)} {r : Nt.Rs} (s : Same H H') (h : NetAt K bad H n rs r) : NetAt K bad H' n rs r := by
  obtain ⟨dx, ra, kn, ds, ks, h1, h2, h3, h4, h5, h6⟩ := h
  exact ⟨dx, ra, kn, ds, ks, s _ _ h1, h2.same s, s _ _ h3, h4.same s, h5.same s (fun _ _ _ z => z), h6.same s (fun _ _ _ z => z.same s)⟩
/-- rows that Net takes -/
structure RowsOk (rs : List (Addr × Rw)) : Prop where
  wf : Nt.WF (revT rs)
  len : rs.length ≤ 12
  nm : ∀ q ∈ rs, nameB q.2.name = true
  er : ∀ q ∈ rs, 0 ≤ q.2.er ∧ q.2.er ≤ 100 ∧ 0 ≤ q.2.de ∧ q.2.de ≤ 100
theorem RowsOk.nd {rs : List (Addr × Rw)} (h : RowsOk rs) : (rwN rs).Nodup := by
  have := h.wf.nodup
  rw [names_revT] at this
  exact (List.reverse_perm (rwN rs)).nodup_iff.mp this
theorem RowsOk.pos {rs : List (Addr × Rw)} (h : RowsOk rs) : 0 < rs.length := by
  have := h.wf
  cases rs with
  | nil => cases this
  | cons a b => exact Nat.succ_pos _
theorem RowsOk.at_ {rs : List (Addr × Rw)} (h : RowsOk rs) {i : Nat} {q : Addr × Rw} (hq : rs[i]? = some q) : Nt.WF (q.2 :: revT (rs.take i)) := by
  have h1 := Nt.wf_take (rows := rs.map (·.2)) h.wf (i := i) (by rw [List.length_map]; exact (List.getElem?_eq_some_iff.mp hq).1)
  rw [← List.map_take, List.take_succ, hq] at h1
  simpa [revT] using h1
theorem knV_none {rs : List (Addr × Rw)} {x : Str} (h : x ∉ rwN rs) : valV (knV rs) (Sum.inr x) = none := by
  cases e : valV (knV rs) (Sum.inr x) with
  | none => rfl
  | some v =>
    obtain ⟨q, hq, z, _⟩ := knV_mem e
    exact absurd (List.mem_map.mpr ⟨q, hq, (Sum.inr.inj z).symm⟩) h
theorem knV_at {rs : List (Addr × Rw)} (nd : (rwN rs).Nodup) {q : Addr × Rw} (hq : q ∈ rs) : valV (knV rs) (Sum.inr q.2.name) = some (V.ref q.1) := by
  have h := val_nodup (kvs := knV rs) (by
    rw [List.map_map]
    have e : ((fun kv : Key × V => kv.1) ∘ fun q : Addr × Rw => ((Sum.inr q.2.name : Key), V.ref q.1)) = Sum.inr ∘ (fun q : Addr × Rw => q.2.name) := rfl
    rw [e, ← List.map_map]
    exact List.pairwise_map.mpr (nd.imp fun h z => h (Sum.inr.inj z))) ((Sum.inr q.2.name : Key), V.ref q.1) (List.mem_map.mpr ⟨q, hq, rfl⟩)
  exact h
theorem RowsOk.fit {rs : List (Addr × Rw)} (h : RowsOk rs) {i : Nat} {q : Addr × Rw} (hq : rs[i]? = some q) : RowFit (knV (rs.take i)) q.2 := by
  have hm := List.mem_of_getElem? hq
  have Wi := h.at_ hq
  obtain ⟨e1, e2, e3, e4⟩ := h.er q hm
  have rn : q.2.name ∉ rwN (rs.take i) := fun z => by
    have h0 : ((rwN rs).take (i + 1)).Nodup := List.Nodup.sublist (List.take_sublist _ _) h.nd
    rw [← List.map_take, List.take_succ, hq, List.map_append] at h0
    exact (List.nodup_append.mp h0).2.2 _ z _ (List.mem_singleton.mpr rfl) rfl
  refine ⟨h.nm q hm, knV_none rn, e1, e2, e3, e4, ?_⟩
  rcases Wi.row with ⟨z, y1, y2, _⟩ | ⟨_, p, y1, y2, _⟩
  · refine .inl ⟨?_, y1, y2⟩
    have : (rs.take i).length = 0 := by
      have := congrArg List.length z
      simpa [revT] using this
    rw [List.eq_nil_of_length_eq_zero this]
    rfl
  · rw [names_revT, List.mem_reverse] at y2
    obtain ⟨z, hz, ez⟩ := List.mem_map.mp y2
    refine .inr ⟨fun y => ?_, p, y1, ?_, ?_⟩
    · rw [List.map_eq_nil_iff.mp y] at hz
      cases hz
    · rw [← ez]
      exact h.nm z (List.mem_of_mem_take hz)
    · have nd : (rwN (rs.take i)).Nodup := by
        have h0 : ((rwN rs).take i).Nodup := List.Nodup.sublist (List.take_sublist _ _) h.nd
        rw [← List.map_take] at h0
        exact h0
      have := knV_at nd hz
      rw [ez] at this
      rw [this]
      rfl
def sp_Net_init (K : PySem.W.Frag) (bad : Addr → Prop) : Sp := fun vs H Q _ => ∃ (x dx ra t : Addr) (rs : List (Addr × Rw)) (r : Nt.Rs), vs = [.ref x, .ref ra, .ref t] ∧ H t = some (.tup (rs.map fun q => .ref q.1)) ∧ H x = some (.ins (gC K "Net") dx []) ∧ RsAt K bad H ra r ∧ (∀ H', Same H H' → IsR K H' ra) ∧ RowsAt H rs ∧ RowsOk rs ∧
  ∀ H', Stay x H H' → NetAt K bad H' x rs r → Q .non H'
theorem net_body (T : Tx K mg) (bad : Addr → Prop) {cdv : Value} {A : Around} {outer : List Env} {s : Shared} {H : Hp} {vs : List V} {Q : VK} {E : XK} (hr : Room 2 (A.deeper (envOfC "Net.__init__" (defScope sd_Net___init__) s.heap.objs.size (a_Net___init__ K) cdv))) (h : sp_Net_init K bad vs H Q E) :
    ∃ t, PSs (cxOf CX0 P w K mg base N_Net___init__ "Net.__init__" (defScope sd_Net___init__) (a_Net___init__ K) cdv A outer s H E) (defBody sd_Net___init__) t ∧ t { nx := fun _ H' => Q .non H', rt := Q } (L2.start N_Net___init__ vs) H := by
  have G__is_row : O__is_row P w K mg base 2 sp_is_row := ok_is_row T
  have G__all_dists : O__all_dists P w K mg base 1 sp_all_dists := ok_all_dists T
  have G__all_kappas : O__all_kappas P w K mg base 1 sp_all_kappas := ok_all_kappas T
  obtain ⟨t1, h_MOST_PLACES⟩ := T.i_MOST_PLACES
  obtain ⟨x, dx, ra, t, rs, r, rfl, ht, hx, hra, isr, hrs, ok, k⟩ := h
  refine ⟨_, PSs.nox ((pss_cons (ps_if (pt_not (pt_val (pe_callB (Kw.isi K) (by rfl) T.f_isinstance (by decide +kernel) (pa_cons (pv 1) (pa_cons (pe_glob (v := .ref (gC K "Rest")) rfl T.g_Rest rfl) pa_nil))))) (pss_one (ps_never)) pss_nil) (pss_cons (ps_if (pt_cmpR op_eq (pe_callB (Kw.len K) (by rfl) T.f_len (by decide +kernel) (pa_cons (pv 2) pa_nil)) (pe_int) (nomark _)) (pss_one (ps_never)) pss_nil) (pss_cons (ps_if (pt_cmpR op_gt (pe_callB (Kw.len K) (by rfl) T.f_len (by decide +kernel) (pa_cons (pv 2) pa_nil)) (pe_glob (v := .int 12) rfl h_MOST_PLACES ⟨_, rfl⟩) (nomark _)) (pss_one (ps_never)) pss_nil) (pss_cons (ps_set (i := 3) sc_Net___init__.nd rfl (Or.inl rfl) (pe_dnewK)) (pss_cons (ps_for PassesOwn.never rfl (show PI _ _ _ (EnT.iEnumT K _) from EnT.pi_enumT (by rfl) T.f_enumerate (pa_cons (pv 2) pa_nil)) (show PG _ _ (gTup K 2 _) from pg_tup rfl (pgs_cons (pg_name (i := 4) sc_Net___init__.nd rfl (Or.inl rfl)) (pgs_cons (pg_name (i := 5) sc_Net___init__.nd rfl (Or.inl rfl)) pgs_nil))) (pss_cons (ps_if (pt_not (pt_val (pe_call G__is_row (hr.mono (by decide)) rfl T.g__is_row T.F__is_row.kp T.b__is_row .nil pass0 (pa_cons (pv 5) (pa_cons (pv 3) pa_nil))))) (pss_one (ps_never)) pss_nil) (pss_one (ps_dput (hu_of hr) (pv 3) (pe_ix (Kw.ixT K) (pv 5) (pe_int) (fun _ _ => rfl)) (pv 5) rfl)))) (pss_cons (show PS _ _ (sFld K _ _ _) from ps_fld (pv 0) (pv 1) rfl) (pss_cons (show PS _ _ (sFld K _ _ _) from ps_fld (pv 0) (pv 3) rfl) (pss_cons (show PS _ _ (sFld K _ _ _) from ps_fld (pv 0) (pe_call G__all_dists (hr.mono (by decide)) rfl T.g__all_dists T.F__all_dists.kp T.b__all_dists .nil pass0 (pa_cons (pv 3) pa_nil)) rfl) (pss_one (show PS _ _ (sFld K _ _ _) from ps_fld (pv 0) (pe_call G__all_kappas (hr.mono (by decide)) rfl T.g__all_kappas T.F__all_kappas.kp T.b__all_kappas .nil pass0 (pa_cons (pv 3) (pa_cons (show PE _ _ (tFld K _ _) from pe_fld (pv 0) rfl) pa_nil))) rfl))))))))))), ?_⟩
  walk_at "go"
  obtain ⟨C0, i1, i2⟩ := isr H (Same.refl H)
  refine ⟨_, _, _, _, true, rfl, .own _, i1, i2, ?_⟩
  walk_at "go"
  refine Sx.lenT (SqT.of ht) ?_
  walk_at "go"
  have hl : ((rs.map fun q => V.ref q.1) : List V).length = rs.length := List.length_map _
  have h1 := ok.pos
  have h2 := ok.len
  refine Sx.dF (by rw [hl]; omega) ?_
  walk_at "go"
  refine Sx.lenT (SqT.of ht) ?_
  walk_at "go"
  refine Sx.dF (by rw [hl]; omega) ?_
  walk_at "go"
  intro kn nk
  walk_at "go"
  have s1 : Same H (upd H kn (.dK [])) := Sx.same_new (Sx.same_rfl H) nk
  refine ⟨t, _, rfl, SqT.of (s1 _ _ ht), VrX.for_J (n := rs.length) (fun i σ H' => (Same H H' ∧ H' kn = some (.dK (knV (rs.take i)))) ∧ ∃ v4 v5, σ = [some (.ref x), some (.ref ra), some (.ref t), some (.ref kn), v4, v5])
    ⟨⟨s1, upd_same⟩, _, _, rfl⟩ (fun _ _ h => ⟨_, SqT.of (h.1.1 _ _ ht), by rw [hl]; exact Nat.le_refl _⟩) (fun i _ _ hi h => ⟨_, _, SqT.of (h.1.1 _ _ ht), List.getElem?_eq_getElem (by rw [hl]; exact hi)⟩) ?_ ?_⟩
  · rintro i y σ H1 H2 hi ⟨⟨s2, hk⟩, v4, v5, rfl⟩ ⟨tp, z, rfl, ntp, rfl, hy⟩
    have hq : rs[i]? = some rs[i] := List.getElem?_eq_getElem hi
    generalize rs[i] = q at hq
    have hy2 := hy _ (SqT.of (s2 _ _ ht))
    rw [List.getElem?_map, hq] at hy2
    obtain rfl : V.ref q.1 = z := Option.some.inj hy2
    have hqm := List.mem_of_getElem? hq
    have s3 : Same H1 (upd H1 tp (.tup [V.int (i : Nat), V.ref q.1])) := Sx.same_new (Sx.same_rfl _) ntp
    refine Sx.gtup (SqT.of upd_same) rfl ?_
    generalize upd H1 tp (.tup [V.int (i : Nat), V.ref q.1]) = H2 at s3
    walk_at "go"
    have hqt := s3 _ _ (s2 _ _ (hrs q hqm))
    refine ⟨q.1, kn, q.2, _, rfl, hqt, s3 _ _ hk, ok.fit hq, ?_⟩
    walk_at "go"
    refine Sx.ixT (SqT.of hqt) (v := .str q.2.name) (atI_nat (j := 0) rfl) ?_
    refine Sx.dpS (s3 _ _ hk) (by rw [List.length_map, List.length_take]; omega) ?_
    refine ⟨⟨Sx.same_new (Same.trans s2 s3) nk, ?_⟩, _, _, rfl⟩
    rw [upd_same, putK_new _ (ok.fit hq).2.1, List.take_succ, hq]
    simp [knV]
  · rintro σ H1 ⟨⟨s2, hk⟩, v4, v5, rfl⟩
    rw [List.take_length] at hk
    walk_at "go"
    have hx1 := s2 _ _ hx
    have kx : kn ≠ x := (ne_of_none hx nk).symm
    refine ⟨x, gC K "Net", dx, [], rfl, hx1, T.c_Net, T.n_Net_rest, (by decide), ?_⟩
    walk_at "go"
    refine ⟨x, gC K "Net", dx, _, rfl, upd_same, T.c_Net, T.n_Net__known, (by show 1 < 1000; decide), ?_⟩
    rw [upd_upd]
    have hx2 : (upd H1 x (.ins (gC K "Net") dx (putF "_known" (V.ref kn) (putF "rest" (V.ref ra) [])))) x = some (.ins (gC K "Net") dx (putF "_known" (V.ref kn) (putF "rest" (V.ref ra) []))) := upd_same
    have hk2 : (upd H1 x (.ins (gC K "Net") dx (putF "_known" (V.ref kn) (putF "rest" (V.ref ra) [])))) kn = some (.dK (knV rs)) := by rw [upd_ne kx]; exact hk
    have st2 : Stay x H (upd H1 x (.ins (gC K "Net") dx (putF "_known" (V.ref kn) (putF "rest" (V.ref ra) [])))) := stay_tr (stay_same s2) stay_upd
    have hr2 : RowsAt (upd H1 x (.ins (gC K "Net") dx (putF "_known" (V.ref kn) (putF "rest" (V.ref ra) [])))) rs := fun q hq => st2 _ _ (ne_of (hrs q hq) hx (fun z => by cases z)) (hrs q hq)
    generalize upd H1 x (.ins (gC K "Net") dx (putF "_known" (V.ref kn) (putF "rest" (V.ref ra) []))) = H2 at hx2 hk2 st2 hr2
    walk_at "go"
    refine ⟨kn, rs, rfl, hk2, hr2, ok.wf, by omega, fun ds H3 s3 hds => ?_⟩
    walk_at "go"
    refine ⟨x, gC K "Net", dx, _, rfl, s3 _ _ hx2, T.c_Net, T.n_Net__dists, (by show 2 < 1000; decide), ?_⟩
    have hx3 : (upd H3 x (.ins (gC K "Net") dx (putF "_dists" (V.ref ds) (putF "_known" (V.ref kn) (putF "rest" (V.ref ra) []))))) x = some (.ins (gC K "Net") dx [("rest", .ref ra), ("_known", .ref kn), ("_dists", .ref ds)]) := upd_same
    have st3 : Stay x H3 (upd H3 x (.ins (gC K "Net") dx (putF "_dists" (V.ref ds) (putF "_known" (V.ref kn) (putF "rest" (V.ref ra) []))))) := stay_upd
    have hds3 := hds.stay (s3 _ _ hx2) st3 (fun _ _ _ z => z)
    have hk3 := st3 _ _ kx (s3 _ _ hk2)
    have st03 := stay_tr (stay_tr st2 (stay_same s3)) st3
    have hr3 : RowsAt (upd H3 x (.ins (gC K "Net") dx (putF "_dists" (V.ref ds) (putF "_known" (V.ref kn) (putF "rest" (V.ref ra) []))))) rs := fun q hq => st03 _ _ (ne_of (hrs q hq) hx (fun z => by cases z)) (hrs q hq)
    generalize upd H3 x (.ins (gC K "Net") dx (putF "_dists" (V.ref ds) (putF "_known" (V.ref kn) (putF "rest" (V.ref ra) [])))) = H4 at hx3 hds3 hk3 st03 hr3
    walk_at "go"
    refine Sx.fldA hx3 T.c_Net T.n_Net__dists (v := .ref ds) (by kernel_rfl) ?_
    walk_at "go"
    refine ⟨kn, ds, rs, rfl, hk3, hr3, ok.wf, by omega, hds3, fun q hq => ⟨(ok.er q hq).1, (ok.er q hq).2.1⟩, fun ks H5 s5 hks => ?_⟩
    walk_at "go"
    refine ⟨x, gC K "Net", dx, _, rfl, s5 _ _ hx3, T.c_Net, T.n_Net__kappas, (by show 3 < 1000; decide), ?_⟩
    have st5 : Stay x H5 (upd H5 x (.ins (gC K "Net") dx (putF "_kappas" (V.ref ks) [("rest", .ref ra), ("_known", .ref kn), ("_dists", .ref ds)]))) := stay_upd
    have st05 := stay_tr (stay_tr st03 (stay_same s5)) st5
    refine k _ st05 ⟨dx, ra, kn, ds, ks, upd_same, hra.stay hx rfl st05, st5 _ _ kx (s5 _ _ hk3), fun q hq => st05 _ _ (ne_of (hrs q hq) hx (fun z => by cases z)) (hrs q hq), (hds3.same s5 (fun _ _ _ z => z)).stay (s5 _ _ hx3) st5 (fun _ _ _ z => z), hks.stay (s5 _ _ hx3) st5 ?_⟩
    rintro a b v ⟨u, p, rfl, hu⟩
    exact ⟨u, p, rfl, st5 _ _ (ne_of hu (s5 _ _ hx3) (fun z => by cases z)) hu⟩
def sp_Net_make (K : PySem.W.Frag) (bad : Addr → Prop) : List V → V → Hp → VK → XK → Prop := fun vs y H Q E => ∃ x rest, vs = x :: rest ∧ rest.length ≤ sizeLine ∧ ∀ p, H p = Option.none → sp_Net_init K bad [x, y, V.ref p] (upd H p (.tup rest)) Q E
theorem ok_Net_init (T : Tx K mg) (bad : Addr → Prop) : StK.FnKR P w K mg base CX0 3 (a_Net___init__ K) "rest" (sp_Net_make K bad) := by
  obtain ⟨oc, od, dV, kV, doc, pm, an, cdv, ct, osl, e, lk, hcd, hD, _⟩ := T.F_Net___init__.ex
  rw [e] at lk
  obtain rfl : dV = .none := by
    rcases hD with ⟨_, z⟩ | ⟨z, _⟩
    · exact z
    · exact absurd rfl z
  exact StK.fn_starK lk hcd sc_Net___init__ StX.cxUp_none (fun u rest z => by cases rest <;> first | rfl | kernel_rfl) fun A outer s H vs Q E hr h => net_body T bad hr h
end
end Wk

set_option Elab.async false
set_option linter.all false
set_option maxRecDepth 100000
set_option maxHeartbeats 2000000
namespace Wk
open PySem PySem.Spec PyProof.Rows L2 NdefX SuX Hk
local macro_rules | `(tactic| walk_at "st") => `(tactic| first
  | with_reducible refine Sx.ret ?_
  | with_reducible refine Sx.retN ?_
  | with_reducible refine Sx.seq ?_
  | with_reducible refine Sx.next ?_
  | with_reducible refine Sx.brk ?_
  | with_reducible refine Sx.cont ?_
  | with_reducible refine Sx.drop ?_
  | with_reducible refine Sx.asg ?_
  | with_reducible refine Sx.gname ?_
  | with_reducible refine Sx.ifS ?_
  | with_reducible refine Sx.var ?_
  | with_reducible refine Sx.con ?_
  | with_reducible refine Sx.op ?_
  | with_reducible refine Sx.un ?_
  | with_reducible refine Sx.cb ?_
  | with_reducible refine Sx.cons ?_
  | with_reducible refine Sx.nil ?_
  | with_reducible refine Sx.call ?_
  | with_reducible refine Sx.test ?_
  | with_reducible refine Sx.tb_ ?_
  | with_reducible refine Sx.bl ?_
  | with_reducible refine Sx.and_ ?_
  | with_reducible refine Sx.or_ ?_
  | with_reducible refine Sx.not_ ?_
  | with_reducible refine Sx.andV ?_
  | with_reducible refine Sx.orV ?_
  | with_reducible refine Sx.notV ?_
  | with_reducible refine Sx.ife ?_
  | with_reducible refine Sx.i0 ?_
  | with_reducible refine Sx.iU ?_
  | with_reducible refine Sx.eqI ?_
  | with_reducible refine Sx.eqS ?_
  | with_reducible refine Sx.neI ?_
  | with_reducible refine Sx.neS ?_
  | with_reducible refine Sx.isN' ?_
  | with_reducible refine Sx.chain ?_
  | with_reducible refine Sx.aug ?_
  | with_reducible refine Sx.ipI' ?_
  | with_reducible refine Sx.ifT ?_
  | with_reducible refine Sx.ifF ?_
  | with_reducible refine Sx.ifnF ?_
  | with_reducible refine Sx.ifnT ?_
  | with_reducible refine Sx.tup ?_
  | with_reducible refine Sx.lst ?_
  | with_reducible refine Sx.fld ?_
  | with_reducible refine Sx.sfld ?_
  | with_reducible refine Sx.meth ?_
  | with_reducible refine Sx.app ?_
  | with_reducible refine Sx.gcons ?_
  | with_reducible refine Sx.gnil ?_
  | with_reducible refine Sx.dget ?_
  | with_reducible refine Sx.din ?_
  | with_reducible refine Sx.dnin ?_
  | with_reducible refine Sx.dput ?_
  | with_reducible refine Sx.forS ?_
  | with_reducible refine Sx.ikeys ?_
  | with_reducible refine Sx.ienumT ?_
  | with_reducible refine Sx.scT ?_
  | with_reducible refine Sx.dc2 ?_
  | with_reducible refine Sx.tru ?_
  | with_reducible refine Sx.mv ?_
  | with_reducible refine Sx.cv ?_
  | with_reducible refine Sx.cw ?_
  | with_reducible refine Sx.join ?_
  | with_reducible refine Sx.lc ?_
  | with_reducible refine Sx.istr ?_
  | with_reducible refine Sx.ilist ?_
  | with_reducible refine Sx.itup ?_
  | with_reducible refine Sx.irng1 ?_
  | with_reducible refine Sx.irng2 ?_
  | with_reducible refine Sx.ienum ?_
  | with_reducible refine Sx.izip ?_
  | with_reducible refine Sx.irev ?_
  | with_reducible refine Sx.iitems ?_
  | with_reducible refine Sx.yes ?_
  | with_reducible refine Sx.js_cons ?_
  | with_reducible refine Sx.js_nil ?_
  | with_reducible refine Sx.fmt ?_
  | with_reducible refine Sx.isi_int ?_
  | with_reducible refine Sx.isi_intb ?_
  | with_reducible refine Sx.isi_str ?_)
local macro_rules | `(tactic| walk_at "go") => `(tactic| repeat walk_at "st")
local macro_rules | `(tactic| walk_at "is") => `(tactic| simp only [Option.isSome_some, Option.isSome_none, Bool.not_true, Bool.not_false])
/-! A net's methods. -/
section
variable {P : Program} {w : World} {K : PySem.W.Frag} {mg : Str → Option Value} {base : Heap}
def sp_row (K : PySem.W.Frag) (bad : Addr → Prop) : Sp := fun vs H Q _ => ∃ (n : Addr) (rs : List (Addr × Rw)) (r : Nt.Rs) (q : Addr × Rw), vs = [.ref n, .str q.2.name] ∧ NetAt K bad H n rs r ∧ RowsOk rs ∧ q ∈ rs ∧ Q (.ref q.1) H
theorem ok_Net_row (T : Tx K mg) (bad : Addr → Prop) : O_Net__row P w K mg base 2 (sp_row K bad) := by
  have G_is_name : O_is_name P w K mg base 1 sp_is_name := ok_is_name T
  refine T.F_Net__row.ok sc_Net__row (fun vs H Q E h => ?_) (fun cdv A outer s H vs Q E hr h => ?_)
  · obtain ⟨n, rs, r, q, rfl, _⟩ := h
    rfl
  · obtain ⟨n, rs, r, q, rfl, ⟨dx, ra, kn, ds, ks, h1, h2, h3, h4, h5, h6⟩, ok, hq, k⟩ := h
    refine ⟨_, PSs.nox ((pss_cons (ps_if (PW.pt (pw_or (pt_not (pt_val (pe_call G_is_name (hr.mono (by decide)) rfl T.g_is_name T.F_is_name.kp T.b_is_name .nil pass0 (pa_cons (pv 1) pa_nil)))) (pw_or1 (pt_cmp (pc_dnotin (hu_of hr) (pv 1) (show PE _ _ (tFld K _ _) from pe_fld (pv 0) rfl)))))) (pss_one (ps_never)) pss_nil) (pss_one (ps_ret (pe_dget (hu_of hr) (show PE _ _ (tFld K _ _) from pe_fld (pv 0) rfl) (pv 1) (fun _ _ => rfl)))))), ?_⟩
    have f1 : (nf ra kn ds ks).lookup ("_known" : Str) = some (V.ref kn) := by kernel_rfl
    walk_at "go"
    refine ⟨_, rfl, ok.nm q hq, ?_⟩
    walk_at "go"
    refine Sx.fldA h1 T.c_Net T.n_Net__known f1 ?_
    refine Sx.dinS h3 (knV_at ok.nd hq) ?_
    walk_at "is"
    walk_at "go"
    refine Sx.fldA h1 T.c_Net T.n_Net__known f1 ?_
    walk_at "go"
    refine Sx.dgS h3 (knV_at ok.nd hq) ?_
    exact k
def sp_names (K : PySem.W.Frag) (bad : Addr → Prop) : Sp := fun vs H Q _ => ∃ (n : Addr) (rs : List (Addr × Rw)) (r : Nt.Rs), vs = [.ref n] ∧ NetAt K bad H n rs r ∧ ∀ p, H p = none → Q (.ref p) (upd H p (.lst ((rwN rs).map V.str)))
theorem ok_Net_names (T : Tx K mg) (bad : Addr → Prop) : O_Net_names P w K mg base 1 (sp_names K bad) := by
  refine T.F_Net_names.ok sc_Net_names (fun vs H Q E h => ?_) (fun cdv A outer s H vs Q E hr h => ?_)
  · obtain ⟨n, rs, r, rfl, _⟩ := h
    rfl
  · obtain ⟨n, rs, r, rfl, ⟨dx, ra, kn, ds, ks, h1, h2, h3, h4, h5, h6⟩, k⟩ := h
    refine ⟨_, PSs.nox ((pss_one (ps_ret (pe_callTy (call_listD rfl) (by rfl) T.f_list (by decide +kernel) (pa_cons (show PE _ _ (tFld K _ _) from pe_fld (pv 0) rfl) pa_nil))))), ?_⟩
    have f1 : (nf ra kn ds ks).lookup ("_known" : Str) = some (V.ref kn) := by kernel_rfl
    walk_at "go"
    refine Sx.fldA h1 T.c_Net T.n_Net__known f1 ?_
    walk_at "go"
    refine ⟨kn, _, rfl, Rd.of h3, fun p np => ?_⟩
    have e : (knV rs).map (fun kv => kV kv.1) = (rwN rs).map V.str := by
      rw [List.map_map, List.map_map]
      rfl
    rw [e]
    exact k p np
def sp_error (K : PySem.W.Frag) (bad : Addr → Prop) : Sp := fun vs H Q _ => ∃ (n : Addr) (rs : List (Addr × Rw)) (r : Nt.Rs) (q : Addr × Rw), vs = [.ref n, .str q.2.name] ∧ NetAt K bad H n rs r ∧ RowsOk rs ∧ q ∈ rs ∧ Q (.int q.2.er) H
theorem ok_Net_error_of (T : Tx K mg) (bad : Addr → Prop) : O_Net_error_of P w K mg base 3 (sp_error K bad) := by
  have G_Net__row : O_Net__row P w K mg base 2 (sp_row K bad) := ok_Net_row T bad
  refine T.F_Net_error_of.ok sc_Net_error_of (fun vs H Q E h => ?_) (fun cdv A outer s H vs Q E hr h => ?_)
  · obtain ⟨n, rs, r, q, rfl, _⟩ := h
    rfl
  · obtain ⟨n, rs, r, q, rfl, N, ok, hq, k⟩ := h
    obtain ⟨dx, ra, kn, ds, ks, h1, h2, h3, h4, h5, h6⟩ := id N
    refine ⟨_, PSs.nox ((pss_one (ps_ret (pe_ix (Kw.ixT K) (pe_meth (pv 0) T.c_Net T.m_Net__row G_Net__row (hr.mono (by decide)) T.b_Net__row .nil pass0 (pa_cons (pv 1) pa_nil)) (pe_int) (fun _ _ => rfl))))), ?_⟩
    walk_at "go"
    refine Sx.methA h1 (by kernel_rfl) ?_
    walk_at "go"
    refine ⟨n, rs, r, q, rfl, N, ok, hq, ?_⟩
    walk_at "go"
    refine Sx.ixT (SqT.of (h4 q hq)) (v := .int q.2.er) (atI_nat (j := 2) rfl) ?_
    exact k
def sp_dist (K : PySem.W.Frag) (bad : Addr → Prop) : Sp := fun vs H Q _ => ∃ (n : Addr) (rs : List (Addr × Rw)) (r : Nt.Rs) (q u : Addr × Rw), vs = [.ref n, .str q.2.name, .str u.2.name] ∧ NetAt K bad H n rs r ∧ RowsOk rs ∧ q ∈ rs ∧ u ∈ rs ∧ Q (.int (Nt.D (revT rs) q.2.name u.2.name)) H
theorem ok_Net_dist (T : Tx K mg) (bad : Addr → Prop) : O_Net_dist P w K mg base 3 (sp_dist K bad) := by
  have G_Net__row : O_Net__row P w K mg base 2 (sp_row K bad) := ok_Net_row T bad
  refine T.F_Net_dist.ok sc_Net_dist (fun vs H Q E h => ?_) (fun cdv A outer s H vs Q E hr h => ?_)
  · obtain ⟨n, rs, r, q, u, rfl, _⟩ := h
    rfl
  · obtain ⟨n, rs, r, q, u, rfl, N, ok, hq, hu, k⟩ := h
    obtain ⟨dx, ra, kn, ds, ks, h1, h2, h3, h4, ⟨kvs, h5, h5t⟩, h6⟩ := id N
    refine ⟨_, PSs.nox ((pss_cons (ps_expr (pe_meth (pv 0) T.c_Net T.m_Net__row G_Net__row (hr.mono (by decide)) T.b_Net__row .nil pass0 (pa_cons (pv 1) pa_nil))) (pss_cons (ps_expr (pe_meth (pv 0) T.c_Net T.m_Net__row G_Net__row (hr.mono (by decide)) T.b_Net__row .nil pass0 (pa_cons (pv 2) pa_nil))) (pss_one (ps_ret (pe_dget (hu_of hr) (pe_dget (hu_of hr) (show PE _ _ (tFld K _ _) from pe_fld (pv 0) rfl) (pv 1) (fun _ _ => rfl)) (pv 2) (fun _ _ => rfl))))))), ?_⟩
    obtain ⟨l, kva, g1, g2, g3⟩ := h5t q.2.name (List.mem_map.mpr ⟨q, hq, rfl⟩)
    obtain ⟨v, g4, g5⟩ := g3 u.2.name (List.mem_map.mpr ⟨u, hu, rfl⟩)
    have g5 : v = .int (Nt.D (revT rs) q.2.name u.2.name) := g5
    subst g5
    walk_at "go"
    refine Sx.methA h1 (by kernel_rfl) ?_
    walk_at "go"
    refine ⟨n, rs, r, q, rfl, N, ok, hq, ?_⟩
    walk_at "go"
    refine Sx.methA h1 (by kernel_rfl) ?_
    walk_at "go"
    refine ⟨n, rs, r, u, rfl, N, ok, hu, ?_⟩
    walk_at "go"
    refine Sx.fldA h1 T.c_Net T.n_Net__dists (v := .ref ds) (by kernel_rfl) ?_
    walk_at "go"
    refine Sx.dgS h5 g1 ?_
    walk_at "go"
    refine Sx.dgS g2 g4 ?_
    exact k
def sp_kappa (K : PySem.W.Frag) (bad : Addr → Prop) : Sp := fun vs H Q _ => ∃ (n : Addr) (rs : List (Addr × Rw)) (r : Nt.Rs) (q u : Addr × Rw), vs = [.ref n, .str q.2.name, .str u.2.name] ∧ NetAt K bad H n rs r ∧ RowsOk rs ∧ q ∈ rs ∧ u ∈ rs ∧ Q (.int (Nt.K (revT rs) q.2.name u.2.name)) H
theorem ok_Net_kappa (T : Tx K mg) (bad : Addr → Prop) : O_Net_kappa P w K mg base 3 (sp_kappa K bad) := by
  have G_Net__row : O_Net__row P w K mg base 2 (sp_row K bad) := ok_Net_row T bad
  refine T.F_Net_kappa.ok sc_Net_kappa (fun vs H Q E h => ?_) (fun cdv A outer s H vs Q E hr h => ?_)
  · obtain ⟨n, rs, r, q, u, rfl, _⟩ := h
    rfl
  · obtain ⟨n, rs, r, q, u, rfl, N, ok, hq, hu, k⟩ := h
    obtain ⟨dx, ra, kn, ds, ks, h1, h2, h3, h4, h5, ⟨kvs, h6, h6t⟩⟩ := id N
    refine ⟨_, PSs.nox ((pss_cons (ps_expr (pe_meth (pv 0) T.c_Net T.m_Net__row G_Net__row (hr.mono (by decide)) T.b_Net__row .nil pass0 (pa_cons (pv 1) pa_nil))) (pss_cons (ps_expr (pe_meth (pv 0) T.c_Net T.m_Net__row G_Net__row (hr.mono (by decide)) T.b_Net__row .nil pass0 (pa_cons (pv 2) pa_nil))) (pss_one (ps_ret (pe_ix (Kw.ixT K) (pe_dget (hu_of hr) (pe_dget (hu_of hr) (show PE _ _ (tFld K _ _) from pe_fld (pv 0) rfl) (pv 1) (fun _ _ => rfl)) (pv 2) (fun _ _ => rfl)) (pe_int) (fun _ _ => rfl))))))), ?_⟩
    obtain ⟨l, kva, g1, g2, g3⟩ := h6t q.2.name (List.mem_map.mpr ⟨q, hq, rfl⟩)
    obtain ⟨v, g4, t, p, rfl, g6⟩ := g3 u.2.name (List.mem_map.mpr ⟨u, hu, rfl⟩)
    walk_at "go"
    refine Sx.methA h1 (by kernel_rfl) ?_
    walk_at "go"
    refine ⟨n, rs, r, q, rfl, N, ok, hq, ?_⟩
    walk_at "go"
    refine Sx.methA h1 (by kernel_rfl) ?_
    walk_at "go"
    refine ⟨n, rs, r, u, rfl, N, ok, hu, ?_⟩
    walk_at "go"
    refine Sx.fldA h1 T.c_Net T.n_Net__kappas (v := .ref ks) (by kernel_rfl) ?_
    walk_at "go"
    refine Sx.dgS h6 g1 ?_
    walk_at "go"
    refine Sx.dgS g2 g4 ?_
    walk_at "go"
    refine Sx.ixT (SqT.of g6) (v := .int _) (atI_nat (j := 0) rfl) ?_
    exact k
end
end Wk

set_option Elab.async false
set_option linter.all false
set_option maxRecDepth 100000
set_option maxHeartbeats 2000000
namespace Wk
open PySem PySem.Spec PyProof.Rows L2 NdefX SuX Hk
local macro_rules | `(tactic| walk_at "st") => `(tactic| first
  | with_reducible refine Sx.ret ?_
  | with_reducible refine Sx.retN ?_
  | with_reducible refine Sx.seq ?_
  | with_reducible refine Sx.next ?_
  | with_reducible refine Sx.brk ?_
  | with_reducible refine Sx.cont ?_
  | with_reducible refine Sx.drop ?_
  | with_reducible refine Sx.asg ?_
  | with_reducible refine Sx.gname ?_
  | with_reducible refine Sx.ifS ?_
  | with_reducible refine Sx.var ?_
  | with_reducible refine Sx.con ?_
  | with_reducible refine Sx.op ?_
  | with_reducible refine Sx.un ?_
  | with_reducible refine Sx.cb ?_
  | with_reducible refine Sx.cons ?_
  | with_reducible refine Sx.nil ?_
  | with_reducible refine Sx.call ?_
  | with_reducible refine Sx.test ?_
  | with_reducible refine Sx.tb_ ?_
  | with_reducible refine Sx.bl ?_
  | with_reducible refine Sx.and_ ?_
  | with_reducible refine Sx.or_ ?_
  | with_reducible refine Sx.not_ ?_
  | with_reducible refine Sx.andV ?_
  | with_reducible refine Sx.orV ?_
  | with_reducible refine Sx.notV ?_
  | with_reducible refine Sx.ife ?_
  | with_reducible refine Sx.i0 ?_
  | with_reducible refine Sx.iU ?_
  | with_reducible refine Sx.eqI ?_
  | with_reducible refine Sx.eqS ?_
  | with_reducible refine Sx.neI ?_
  | with_reducible refine Sx.neS ?_
  | with_reducible refine Sx.isN' ?_
  | with_reducible refine Sx.chain ?_
  | with_reducible refine Sx.aug ?_
  | with_reducible refine Sx.ipI' ?_
  | with_reducible refine Sx.ifT ?_
  | with_reducible refine Sx.ifF ?_
  | with_reducible refine Sx.ifnF ?_
  | with_reducible refine Sx.ifnT ?_
  | with_reducible refine Sx.tup ?_
  | with_reducible refine Sx.lst ?_
  | with_reducible refine Sx.fld ?_
  | with_reducible refine Sx.sfld ?_
  | with_reducible refine Sx.meth ?_
  | with_reducible refine Sx.app ?_
  | with_reducible refine Sx.gcons ?_
  | with_reducible refine Sx.gnil ?_
  | with_reducible refine Sx.dget ?_
  | with_reducible refine Sx.din ?_
  | with_reducible refine Sx.dnin ?_
  | with_reducible refine Sx.dput ?_
  | with_reducible refine Sx.forS ?_
  | with_reducible refine Sx.ikeys ?_
  | with_reducible refine Sx.ienumT ?_
  | with_reducible refine Sx.scT ?_
  | with_reducible refine Sx.dc2 ?_
  | with_reducible refine Sx.tru ?_
  | with_reducible refine Sx.mv ?_
  | with_reducible refine Sx.cv ?_
  | with_reducible refine Sx.cw ?_
  | with_reducible refine Sx.join ?_
  | with_reducible refine Sx.lc ?_
  | with_reducible refine Sx.istr ?_
  | with_reducible refine Sx.ilist ?_
  | with_reducible refine Sx.itup ?_
  | with_reducible refine Sx.irng1 ?_
  | with_reducible refine Sx.irng2 ?_
  | with_reducible refine Sx.ienum ?_
  | with_reducible refine Sx.izip ?_
  | with_reducible refine Sx.irev ?_
  | with_reducible refine Sx.iitems ?_
  | with_reducible refine Sx.yes ?_
  | with_reducible refine Sx.js_cons ?_
  | with_reducible refine Sx.js_nil ?_
  | with_reducible refine Sx.fmt ?_
  | with_reducible refine Sx.isi_int ?_
  | with_reducible refine Sx.isi_intb ?_
  | with_reducible refine Sx.isi_str ?_)
local macro_rules | `(tactic| walk_at "go") => `(tactic| repeat walk_at "st")
local macro_rules | `(tactic| walk_at "is") => `(tactic| simp only [Option.isSome_some, Option.isSome_none, Bool.not_true, Bool.not_false])
/-! Demands. -/
section
variable {P : Program} {w : World} {K : PySem.W.Frag} {mg : Str → Option Value} {base : Heap}
/-! ### a list or a tuple -/
def seqO (tp : Bool) (xs : List V) : HO := if tp = true then .tup xs else .lst xs
theorem seqO_or {tp : Bool} {H : Hp} {a : Addr} {xs : List V} (h : H a = some (seqO tp xs)) : SqL K H a xs ∨ SqT K H a xs := by
  cases tp with
  | true => exact .inr (SqT.of h)
  | false => exact .inl (SqL.of h)
theorem seqO_ne {tp : Bool} {xs : List V} {C dx : Addr} {fs : List (Str × V)} : seqO tp xs ≠ .ins C dx fs := by
  cases tp <;> exact fun z => by cases z
/-- a walk over it -/
structure SeqJ (K : PySem.W.Frag) (tp : Bool) (a : Addr) (J : It) : Prop where
  go : ∀ i H xs, H a = some (seqO tp xs) → i < xs.length → J.go i H
  stop : ∀ i H xs, H a = some (seqO tp xs) → xs.length ≤ i → J.stop i H
  yld : ∀ i H v H', J.yld i H v H' → H' = H ∧ ∀ xs, H a = some (seqO tp xs) → xs[i]? = some v
structure EnuJ (K : PySem.W.Frag) (tp : Bool) (a : Addr) (J : It) : Prop where
  go : ∀ i H xs, H a = some (seqO tp xs) → i < xs.length → J.go i H
  stop : ∀ i H xs, H a = some (seqO tp xs) → xs.length ≤ i → J.stop i H
  yld : ∀ i H v H', J.yld i H v H' → ∃ T x, v = .ref T ∧ H T = none ∧ H' = upd H T (.tup [.int (i : Nat), x]) ∧ ∀ xs, H a = some (seqO tp xs) → xs[i]? = some x
theorem seq_or {te : TE} {σ : L2.St} {H : Hp} {R : It → Hp → Prop} {tp : Bool} {a : Addr} {xs : List V} (h : H a = some (seqO tp xs)) (hv : ∀ Q : VK, Q (.ref a) H → te σ H Q) (k : ∀ J, SeqJ K tp a J → R J H) : iList K te σ H R ∨ iTup K te σ H R := by
  cases tp with
  | true => exact .inr (hv _ ⟨a, rfl, ⟨xs, SqT.of h⟩, k _ ⟨fun i H xs h hi => ⟨xs, _, SqT.of h, List.getElem?_eq_getElem hi⟩, fun i H xs h hi => ⟨xs, SqT.of h, hi⟩, fun i H v H' y => ⟨y.1, fun xs h => y.2 xs (SqT.of h)⟩⟩⟩)
  | false => exact .inl (hv _ ⟨a, rfl, ⟨xs, SqL.of h⟩, k _ ⟨fun i H xs h hi => ⟨xs, _, SqL.of h, List.getElem?_eq_getElem hi⟩, fun i H xs h hi => ⟨xs, SqL.of h, hi⟩, fun i H v H' y => ⟨y.1, fun xs h => y.2 xs (SqL.of h)⟩⟩⟩)
theorem enu_or {ta : TA} {σ : L2.St} {H : Hp} {R : It → Hp → Prop} {tp : Bool} {a : Addr} {xs : List V} (h : H a = some (seqO tp xs)) (hv : ∀ Q : List V → Hp → Prop, Q [.ref a] H → ta σ H Q) (k : ∀ J, EnuJ K tp a J → R J H) : iEnum K ta σ H R ∨ EnT.iEnumT K ta σ H R := by
  cases tp with
  | true => exact .inr (hv _ ⟨a, xs, rfl, SqT.of h, k _ ⟨fun i H xs h hi => ⟨xs, _, SqT.of h, List.getElem?_eq_getElem hi⟩, fun i H xs h hi => ⟨xs, SqT.of h, hi⟩, fun i H v H' ⟨T, x, h1, h2, h3, h4⟩ => ⟨T, x, h1, h2, h3, fun xs h => h4 xs (SqT.of h)⟩⟩⟩)
  | false => exact .inl (hv _ ⟨a, xs, rfl, SqL.of h, k _ ⟨fun i H xs h hi => ⟨xs, _, SqL.of h, List.getElem?_eq_getElem hi⟩, fun i H xs h hi => ⟨xs, SqL.of h, hi⟩, fun i H v H' ⟨T, x, h1, h2, h3, h4⟩ => ⟨T, x, h1, h2, h3, fun xs h => h4 xs (SqL.of h)⟩⟩⟩)
/-! ### demands in the heap -/
abbrev Dm : Type := Addr × (Str × Int)
def DemAt (H : Hp) (ds : List Dm) : Prop := ∀ q ∈ ds, H q.1 = some (.tup [.str q.2.1, .int q.2.2])
abbrev dmV (ds : List Dm) : List V := ds.map fun q => V.ref q.1
def DmAt (H : Hp) (a : Addr) (tp : Bool) (ds : List Dm) : Prop := H a = some (seqO tp (dmV ds)) ∧ DemAt H ds
theorem DmAt.same {H H' : Hp} {a : Addr} {tp : Bool} {ds : List Dm} (s : Same H H') (h : DmAt H a tp ds) : DmAt H' a tp ds := ⟨s _ _ h.1, fun q hq => s _ _ (h.2 q hq)⟩
theorem inV_str {x : Str} {l : List Str} : inV (.str x) (l.map V.str) = decide (x ∈ l) := by
  rw [Bool.eq_iff_iff, decide_eq_true_iff]
  unfold inV
  rw [List.any_map, List.any_eq_true]
  constructor
  · rintro ⟨y, hy, e⟩
    have e : (y == x) = true := e
    rw [← eq_of_beq e]
    exact hy
  · intro hx
    exact ⟨x, hx, (beq_self_eq_true x : (x == x) = true)⟩
theorem flat_strs (l : List Str) : (l.map V.str).all flatV = true := by
  rw [List.all_map, List.all_eq_true]
  exact fun _ _ => rfl
def sp_is_demand : Sp := fun vs H Q _ => ∃ (t p : Addr) (x : Str) (v : Int) (nms : List Str), vs = [.ref t, .ref p] ∧ H t = some (.tup [.str x, .int v]) ∧ H p = some (.lst (nms.map V.str)) ∧ x ∈ nms ∧ 0 ≤ v ∧ Q (.bl true) H
theorem ok_is_demand (T : Tx K mg) : O__is_demand P w K mg base 2 sp_is_demand := by
  have G_is_from : O_is_from P w K mg base 1 sp_is_from := ok_is_from T
  refine T.F__is_demand.ok sc__is_demand (fun vs H Q E h => ?_) (fun cdv A outer s H vs Q E hr h => ?_)
  · obtain ⟨t, p, x, v, nms, rfl, _⟩ := h
    rfl
  · obtain ⟨t, p, x, v, nms, rfl, ht, hp, hx, hv, k⟩ := h
    refine ⟨_, PSs.nox ((pss_cons (ps_if (PW.pt (pw_or (pt_not (pt_val (pe_callB (Kw.isi K) (by rfl) T.f_isinstance (by decide +kernel) (pa_cons (pv 0) (pa_cons (pe_bltn (v := .ty "tuple") rfl T.f_tuple (by decide +kernel) rfl) pa_nil))))) (pw_or1 (pt_cmpR op_ne (pe_callB (Kw.len K) (by rfl) T.f_len (by decide +kernel) (pa_cons (pv 0) pa_nil)) (pe_int) (nomark _))))) (pss_one (ps_ret (pe_bl))) pss_nil) (pss_one (ps_ret (pe_and (pe_callB (Kw.isi K) (by rfl) T.f_isinstance (by decide +kernel) (pa_cons (pe_ix (Kw.ixT K) (pv 0) (pe_int) (fun _ _ => rfl)) (pa_cons (pe_bltn (v := .ty "str") rfl T.f_str (by decide +kernel) rfl) pa_nil))) (pe_and (pe_cmpR (Kw.inS K) (pe_ix (Kw.ixT K) (pv 0) (pe_int) (fun _ _ => rfl)) (pv 1) rfl) (pe_one (pe_call G_is_from (hr.mono (by decide)) rfl T.g_is_from T.F_is_from.kp T.b_is_from .nil pass0 (pa_cons (pe_ix (Kw.ixT K) (pv 0) (pe_int) (fun _ _ => rfl)) (pa_cons (pe_int) pa_nil)))))))))), ?_⟩
    walk_at "go"
    refine Sx.isi_tup ht ?_
    walk_at "go"
    refine Sx.lenT (SqT.of ht) ?_
    walk_at "go"
    refine Sx.ndT rfl ?_
    walk_at "go"
    refine Sx.ixT (SqT.of ht) (v := .str x) (atI_nat (j := 0) rfl) ?_
    walk_at "go"
    refine Sx.ixT (SqT.of ht) (v := .str x) (atI_nat (j := 0) rfl) ?_
    walk_at "go"
    refine ⟨p, _, rfl, .inl (SqL.of hp), rfl, flat_strs _, ?_⟩
    rw [inV_str, decide_eq_true hx]
    walk_at "go"
    refine Sx.bT (b := if false = true then !true else true) rfl ?_
    walk_at "go"
    refine Sx.ixT (SqT.of ht) (v := .int v) (atI_nat (j := 1) rfl) ?_
    walk_at "go"
    exact ⟨v, 0, rfl, hv, k⟩
/-- demands that none is early of -/
structure DmOk (rs : List (Addr × Rw)) (ds : List Dm) : Prop where
  len : ds.length ≤ 60
  pl : ∀ q ∈ ds, q.2.1 ∈ rwN rs
  nn : ∀ q ∈ ds, 0 ≤ q.2.2
  late : ∀ q ∈ ds, ∀ h, (rwN rs)[0]? = some h → q.2.1 ≠ h → Nt.D (revT rs) h q.2.1 < q.2.2 - Nt.erOf (revT rs) q.2.1
theorem er_at {rs : List (Addr × Rw)} (ok : RowsOk rs) {q : Addr × Rw} (hq : q ∈ rs) : Nt.erOf (revT rs) q.2.name = q.2.er :=
  (ok.wf.er_of q.2 (List.mem_reverse.mpr (List.mem_map.mpr ⟨q, hq, rfl⟩))).1
def sp_check (K : PySem.W.Frag) (bad : Addr → Prop) : Sp := fun vs H Q _ => ∃ (n da : Addr) (tp : Bool) (rs : List (Addr × Rw)) (r : Nt.Rs) (ds : List Dm), vs = [.ref n, .ref da] ∧ NetAt K bad H n rs r ∧ RowsOk rs ∧ DmAt H da tp ds ∧ DmOk rs ds ∧ ∀ H', Same H H' → Q .non H'
theorem ok_check (T : Tx K mg) (bad : Addr → Prop) : O_check_demands P w K mg base 4 (sp_check K bad) := by
  have G__is_demand : O__is_demand P w K mg base 2 sp_is_demand := ok_is_demand T
  have G_Net_names : O_Net_names P w K mg base 1 (sp_names K bad) := ok_Net_names T bad
  have G_Net_error_of : O_Net_error_of P w K mg base 3 (sp_error K bad) := ok_Net_error_of T bad
  have G_Net_dist : O_Net_dist P w K mg base 3 (sp_dist K bad) := ok_Net_dist T bad
  refine T.F_check_demands.ok sc_check_demands (fun vs H Q E h => ?_) (fun cdv A outer s H vs Q E hr h => ?_)
  · obtain ⟨n, da, tp, rs, r, ds, rfl, _⟩ := h
    rfl
  · obtain ⟨n, da, tp, rs, r, ds, rfl, N, ok, hd, dok, k⟩ := h
    obtain ⟨t1, h_MOST_BOOKED⟩ := T.i_MOST_BOOKED
    refine ⟨_, PSs.nox ((pss_cons (ps_if (pt_not (pt_val (pe_callB (Kw.isiT K) (by rfl) T.f_isinstance (by decide +kernel) (pa_cons (pv 1) (pa_cons (pe_tup (pa_cons (pe_bltn (v := .ty "list") rfl T.f_list (by decide +kernel) rfl) (pa_cons (pe_bltn (v := .ty "tuple") rfl T.f_tuple (by decide +kernel) rfl) pa_nil))) pa_nil))))) (pss_one (ps_never)) pss_nil) (pss_cons (ps_set (i := 2) sc_check_demands.nd rfl (Or.inl rfl) (pe_meth0 (pv 0) T.c_Net T.m_Net_names G_Net_names (hr.mono (by decide)) T.b_Net_names .nil pass0)) (pss_cons (ps_for PassesOwn.never rfl (StK.pi_or2 (show PI _ _ _ (iEnum K _) from pi_enum (by rfl) T.f_enumerate (pa_cons (pv 1) pa_nil)) (show PI _ _ _ (EnT.iEnumT K _) from EnT.pi_enumT (by rfl) T.f_enumerate (pa_cons (pv 1) pa_nil))) (show PG _ _ (gTup K 2 _) from pg_tup rfl (pgs_cons (pg_name (i := 3) sc_check_demands.nd rfl (Or.inl rfl)) (pgs_cons (pg_name (i := 4) sc_check_demands.nd rfl (Or.inl rfl)) pgs_nil))) (pss_one (ps_if (pt_not (pt_val (pe_call G__is_demand (hr.mono (by decide)) rfl T.g__is_demand T.F__is_demand.kp T.b__is_demand .nil pass0 (pa_cons (pv 4) (pa_cons (pv 2) pa_nil))))) (pss_one (ps_never)) pss_nil))) (pss_cons (ps_if (pt_cmpR op_gt (pe_callB (Kw.len K) (by rfl) T.f_len (by decide +kernel) (pa_cons (pv 1) pa_nil)) (pe_glob (v := .int 60) rfl h_MOST_BOOKED ⟨_, rfl⟩) (nomark _)) (pss_one (ps_never)) pss_nil) (pss_one (ps_for PassesOwn.never rfl (StK.pi_or2 (show PI _ _ _ (iEnum K _) from pi_enum (by rfl) T.f_enumerate (pa_cons (pv 1) pa_nil)) (show PI _ _ _ (EnT.iEnumT K _) from EnT.pi_enumT (by rfl) T.f_enumerate (pa_cons (pv 1) pa_nil))) (show PG _ _ (gTup K 2 _) from pg_tup rfl (pgs_cons (pg_name (i := 3) sc_check_demands.nd rfl (Or.inl rfl)) (pgs_cons (show PG _ _ (gTup K 2 _) from pg_tup rfl (pgs_cons (pg_name (i := 5) sc_check_demands.nd rfl (Or.inl rfl)) (pgs_cons (pg_name (i := 6) sc_check_demands.nd rfl (Or.inl rfl)) pgs_nil))) pgs_nil))) (pss_one (ps_if (PW.pt (pw_and (pt_cmpR op_ne (pv 5) (pe_ix (Kw.ixL K) (pv 2) (pe_int) (fun _ _ => rfl)) (nomark _)) (pw_and1 (pt_cmpR op_le (pe_op op_sub (pv 6) (pe_meth (pv 0) T.c_Net T.m_Net_error_of G_Net_error_of (hr.mono (by decide)) T.b_Net_error_of .nil pass0 (pa_cons (pv 5) pa_nil))) (pe_meth (pv 0) T.c_Net T.m_Net_dist G_Net_dist (hr.mono (by decide)) T.b_Net_dist .nil pass0 (pa_cons (pe_ix (Kw.ixL K) (pv 2) (pe_int) (fun _ _ => rfl)) (pa_cons (pv 5) pa_nil))) (nomark _))))) (pss_one (ps_never)) pss_nil))))))))), ?_⟩
    walk_at "go"
    refine Sx.nw (by decide) fun p1 m1 => ?_
    have s1 : Same H (upd H p1 (.tup [V.ty "list", V.ty "tuple"])) := Sx.same_new (Sx.same_rfl H) m1
    have hp1 : (upd H p1 (.tup [V.ty "list", V.ty "tuple"])) p1 = some (.tup [V.ty "list", V.ty "tuple"]) := upd_same
    generalize upd H p1 (.tup [V.ty "list", V.ty "tuple"]) = H1 at s1 hp1
    walk_at "go"
    have isT : ∀ {Q : VK}, Q (.bl true) H1 → rIsiT K [.ref da, .ref p1] H1 Q := fun {Q} q => by
      have := (hd.same s1).1
      cases tp with
      | true => exact Sx.isiT_tup this hp1 q
      | false => exact Sx.isiT_lst this hp1 q
    refine isT ?_
    walk_at "go"
    obtain ⟨dx, ra, kn, dk, ks, h1, _⟩ := N.same s1
    refine Sx.methA h1 (by kernel_rfl) ?_
    walk_at "go"
    refine ⟨n, rs, r, rfl, N.same s1, fun p np => ?_⟩
    have s2 : Same H1 (upd H1 p (.lst ((rwN rs).map V.str))) := Sx.same_new (Sx.same_rfl _) np
    have hp : (upd H1 p (.lst ((rwN rs).map V.str))) p = some (.lst ((rwN rs).map V.str)) := upd_same
    have s02 := Same.trans s1 s2
    generalize upd H1 p (.lst ((rwN rs).map V.str)) = H2 at hp s02
    walk_at "go"
    refine enu_or (hd.same s02).1 (fun Q q => Sx.cons (Sx.var (Sx.nil q))) fun J hJ => ?_
    refine VrX.for_J (n := ds.length) (fun i σ H' => (Same H H' ∧ H' p = some (.lst ((rwN rs).map V.str))) ∧ ∃ v3 v4 v5 v6, σ = [some (.ref n), some (.ref da), some (.ref p), v3, v4, v5, v6]) ⟨⟨s02, hp⟩, _, _, _, _, rfl⟩
      (fun σ H' h => hJ.stop _ _ _ (hd.same h.1.1).1 (by rw [List.length_map]; exact Nat.le_refl _)) (fun i σ H' hi h => hJ.go _ _ _ (hd.same h.1.1).1 (by rw [List.length_map]; exact hi)) ?_ ?_
    · rintro i y σ H3 H4 hi ⟨⟨s3, hp3⟩, v3, v4, v5, v6, rfl⟩ hy
      obtain ⟨U, x, rfl, nU, rfl, hx⟩ := hJ.yld _ _ _ _ hy
      have hq : ds[i]? = some ds[i] := List.getElem?_eq_getElem hi
      generalize ds[i] = q at hq
      have hx2 := hx _ (hd.same s3).1
      rw [List.getElem?_map, hq] at hx2
      obtain rfl : V.ref q.1 = x := Option.some.inj hx2
      have hqm := List.mem_of_getElem? hq
      refine Sx.gtup (SqT.of upd_same) rfl ?_
      have s4 : Same H3 (upd H3 U (.tup [V.int (i : Nat), V.ref q.1])) := Sx.same_new (Sx.same_rfl _) nU
      generalize upd H3 U (.tup [V.int (i : Nat), V.ref q.1]) = H4 at s4
      walk_at "go"
      refine ⟨q.1, p, q.2.1, q.2.2, rwN rs, rfl, s4 _ _ (s3 _ _ (hd.2 q hqm)), s4 _ _ hp3, dok.pl q hqm, dok.nn q hqm, ?_⟩
      walk_at "go"
      exact ⟨⟨Same.trans s3 s4, s4 _ _ hp3⟩, _, _, _, _, rfl⟩
    · rintro σ H3 ⟨⟨s3, hp3⟩, v3, v4, v5, v6, rfl⟩
      walk_at "go"
      refine ⟨da, _, rfl, seqO_or (hd.same s3).1, ?_⟩
      walk_at "go"
      refine Sx.dF (by rw [List.length_map]; have := dok.len; omega) ?_
      walk_at "go"
      refine enu_or (hd.same s3).1 (fun Q q => Sx.cons (Sx.var (Sx.nil q))) fun J hJ => ?_
      refine VrX.for_J (n := ds.length) (fun i σ H' => (Same H H' ∧ H' p = some (.lst ((rwN rs).map V.str))) ∧ ∃ v3 v4 v5 v6, σ = [some (.ref n), some (.ref da), some (.ref p), v3, v4, v5, v6]) ⟨⟨s3, hp3⟩, _, _, _, _, rfl⟩
        (fun σ H' h => hJ.stop _ _ _ (hd.same h.1.1).1 (by rw [List.length_map]; exact Nat.le_refl _)) (fun i σ H' hi h => hJ.go _ _ _ (hd.same h.1.1).1 (by rw [List.length_map]; exact hi)) ?_ ?_
      · rintro i y σ H4 H5 hi ⟨⟨s4, hp4⟩, v3, v4, v5, v6, rfl⟩ hy
        obtain ⟨U, x, rfl, nU, rfl, hx⟩ := hJ.yld _ _ _ _ hy
        have hq : ds[i]? = some ds[i] := List.getElem?_eq_getElem hi
        generalize ds[i] = q at hq
        have hx2 := hx _ (hd.same s4).1
        rw [List.getElem?_map, hq] at hx2
        obtain rfl : V.ref q.1 = x := Option.some.inj hx2
        have hqm := List.mem_of_getElem? hq
        refine Sx.gtup (SqT.of upd_same) rfl ?_
        have s5 : Same H4 (upd H4 U (.tup [V.int (i : Nat), V.ref q.1])) := Sx.same_new (Sx.same_rfl _) nU
        generalize upd H4 U (.tup [V.int (i : Nat), V.ref q.1]) = H5 at s5
        have s05 := Same.trans s4 s5
        have hp5 := s5 _ _ hp4
        walk_at "go"
        refine Sx.gtup (SqT.of (s05 _ _ (hd.2 q hqm))) rfl ?_
        walk_at "go"
        obtain ⟨hh, ehh⟩ : ∃ hh, (rwN rs)[0]? = some hh := ⟨_, List.getElem?_eq_getElem (by rw [List.length_map]; exact ok.pos)⟩
        have e0 : atI ((rwN rs).map V.str) 0 = some (.str hh) := atI_nat (j := 0) (by rw [List.getElem?_map, ehh]; rfl)
        refine Sx.ixL (SqL.of hp5) e0 ?_
        walk_at "go"
        refine Sx.ifn (fun c => ?_) (fun c => ?_)
        · obtain ⟨u, hu, eu⟩ := List.mem_map.mp (dok.pl q hqm)
          obtain ⟨u0, hu0, eu0⟩ := List.mem_map.mp (List.mem_of_getElem? ehh)
          have lt := dok.late q hqm hh ehh c
          rw [← eu, er_at ok hu, ← eu0] at lt
          obtain ⟨dx5, ra5, kn5, dk5, ks5, h5, _⟩ := N.same s05
          walk_at "go"
          refine Sx.methA h5 (by kernel_rfl) ?_
          walk_at "go"
          refine ⟨n, rs, r, u, by rw [eu], N.same s05, ok, hu, ?_⟩
          walk_at "go"
          refine Sx.methA h5 (by kernel_rfl) ?_
          walk_at "go"
          refine Sx.ixL (SqL.of hp5) e0 ?_
          walk_at "go"
          refine ⟨n, rs, r, u0, u, by rw [eu, eu0], N.same s05, ok, hu0, hu, ?_⟩
          walk_at "go"
          refine Sx.dF (by omega) ?_
          walk_at "go"
          exact ⟨⟨s05, hp5⟩, _, _, _, _, rfl⟩
        · walk_at "go"
          exact ⟨⟨s05, hp5⟩, _, _, _, _, rfl⟩
      · rintro σ H4 ⟨⟨s4, hp4⟩, v3, v4, v5, v6, rfl⟩
        walk_at "go"
        exact k _ s4
end
end Wk

set_option Elab.async false
set_option linter.all false
set_option maxRecDepth 100000
set_option maxHeartbeats 2000000
namespace Wk
open PySem PySem.Spec PyProof.Rows L2 NdefX SuX Hk
local macro_rules | `(tactic| walk_at "st") => `(tactic| first
  | with_reducible refine Sx.ret ?_
  | with_reducible refine Sx.retN ?_
  | with_reducible refine Sx.seq ?_
  | with_reducible refine Sx.next ?_
  | with_reducible refine Sx.brk ?_
  | with_reducible refine Sx.cont ?_
  | with_reducible refine Sx.drop ?_
  | with_reducible refine Sx.asg ?_
  | with_reducible refine Sx.gname ?_
  | with_reducible refine Sx.ifS ?_
  | with_reducible refine Sx.var ?_
  | with_reducible refine Sx.con ?_
  | with_reducible refine Sx.op ?_
  | with_reducible refine Sx.un ?_
  | with_reducible refine Sx.cb ?_
  | with_reducible refine Sx.cons ?_
  | with_reducible refine Sx.nil ?_
  | with_reducible refine Sx.call ?_
  | with_reducible refine Sx.test ?_
  | with_reducible refine Sx.tb_ ?_
  | with_reducible refine Sx.bl ?_
  | with_reducible refine Sx.and_ ?_
  | with_reducible refine Sx.or_ ?_
  | with_reducible refine Sx.not_ ?_
  | with_reducible refine Sx.andV ?_
  | with_reducible refine Sx.orV ?_
  | with_reducible refine Sx.notV ?_
  | with_reducible refine Sx.ife ?_
  | with_reducible refine Sx.i0 ?_
  | with_reducible refine Sx.iU ?_
  | with_reducible refine Sx.eqI ?_
  | with_reducible refine Sx.eqS ?_
  | with_reducible refine Sx.neI ?_
  | with_reducible refine Sx.neS ?_
  | with_reducible refine Sx.isN' ?_
  | with_reducible refine Sx.chain ?_
  | with_reducible refine Sx.aug ?_
  | with_reducible refine Sx.ipI' ?_
  | with_reducible refine Sx.ifT ?_
  | with_reducible refine Sx.ifF ?_
  | with_reducible refine Sx.ifnF ?_
  | with_reducible refine Sx.ifnT ?_
  | with_reducible refine Sx.tup ?_
  | with_reducible refine Sx.lst ?_
  | with_reducible refine Sx.fld ?_
  | with_reducible refine Sx.sfld ?_
  | with_reducible refine Sx.meth ?_
  | with_reducible refine Sx.app ?_
  | with_reducible refine Sx.gcons ?_
  | with_reducible refine Sx.gnil ?_
  | with_reducible refine Sx.dget ?_
  | with_reducible refine Sx.din ?_
  | with_reducible refine Sx.dnin ?_
  | with_reducible refine Sx.dput ?_
  | with_reducible refine Sx.forS ?_
  | with_reducible refine Sx.ikeys ?_
  | with_reducible refine Sx.ienumT ?_
  | with_reducible refine Sx.scT ?_
  | with_reducible refine Sx.dc2 ?_
  | with_reducible refine Sx.tru ?_
  | with_reducible refine Sx.mv ?_
  | with_reducible refine Sx.cv ?_
  | with_reducible refine Sx.cw ?_
  | with_reducible refine Sx.join ?_
  | with_reducible refine Sx.lc ?_
  | with_reducible refine Sx.istr ?_
  | with_reducible refine Sx.ilist ?_
  | with_reducible refine Sx.itup ?_
  | with_reducible refine Sx.irng1 ?_
  | with_reducible refine Sx.irng2 ?_
  | with_reducible refine Sx.ienum ?_
  | with_reducible refine Sx.izip ?_
  | with_reducible refine Sx.irev ?_
  | with_reducible refine Sx.iitems ?_
  | with_reducible refine Sx.yes ?_
  | with_reducible refine Sx.js_cons ?_
  | with_reducible refine Sx.js_nil ?_
  | with_reducible refine Sx.fmt ?_
  | with_reducible refine Sx.isi_int ?_
  | with_reducible refine Sx.isi_intb ?_
  | with_reducible refine Sx.isi_str ?_)
local macro_rules | `(tactic| walk_at "go") => `(tactic| repeat walk_at "st")
local macro_rules | `(tactic| walk_at "is") => `(tactic| simp only [Option.isSome_some, Option.isSome_none, Bool.not_true, Bool.not_false])
/-! Moments and lines. -/
section
variable {P : Program} {w : World} {K : PySem.W.Frag} {mg : Str → Option Value} {base : Heap}
theorem rest_call (T : Tx K mg) {bad : Addr → Prop} {H : Hp} {a : Addr} {r : Nt.Rs} (h : RsAt K bad H a r) : ∃ C dx fs, H a = some (.ins C dx fs) ∧ StX.CallO K C (a_Rest___call__ K) := by
  have two : ∀ {C : Str} {f g : Nt.Fm}, TwoAt K bad H a C f g → ∃ dx fs, H a = some (.ins (gC K C) dx fs) := fun ⟨d, tx, pe, be, b, c, h1, _⟩ => ⟨d, _, h1⟩
  cases r with
  | pl f =>
    cases f with
    | win n =>
      obtain ⟨d, tx, _, h1⟩ := h
      exact ⟨_, d, _, h1, by have := T.call_Window; rw [T.same_Window___call__] at this; exact this⟩
    | days bs p =>
      obtain ⟨d, tx, b, _, h1, _⟩ := h
      exact ⟨_, d, _, h1, by have := T.call_Days; rw [T.same_Days___call__] at this; exact this⟩
  | lat f g =>
    obtain ⟨d, fs, h1⟩ := two h
    exact ⟨_, d, _, h1, by have := T.call_Later; rw [T.same_Later___call__] at this; exact this⟩
  | soo f g =>
    obtain ⟨d, fs, h1⟩ := two h
    exact ⟨_, d, _, h1, by have := T.call_Sooner; rw [T.same_Sooner___call__] at this; exact this⟩
  | nxt f g =>
    obtain ⟨d, fs, h1⟩ := two h
    exact ⟨_, d, _, h1, by have := T.call_Next; rw [T.same_Next___call__] at this; exact this⟩
/-- the moment that the rest gives to a demand -/
def momD (rs : List (Addr × Rw)) (r : Nt.Rs) (q : Str × Int) : Int := Nt.rsAft r (q.2 + Nt.erOf (revT rs) q.1)
def fstD (rs : List (Addr × Rw)) (q : Str × Int) : Int := q.2 - Nt.erOf (revT rs) q.1
def sp_rested (K : PySem.W.Frag) (bad : Addr → Prop) : Sp := fun vs H Q _ => ∃ (n da : Addr) (tp : Bool) (rs : List (Addr × Rw)) (r : Nt.Rs) (ds : List Dm), vs = [.ref n, .ref da] ∧ NetAt K bad H n rs r ∧ RowsOk rs ∧ Nt.RsOk r ∧ DmAt H da tp ds ∧ DmOk rs ds ∧
  ∀ p H', Same H H' → H p = none → H' p = some (.lst (ds.map fun q => V.int (momD rs r q.2))) → Q (.ref p) H'
theorem ok_rested (T : Tx K mg) (bad : Addr → Prop) : O_rested_moments P w K mg base 4 (sp_rested K bad) := by
  have G_Net_error_of : O_Net_error_of P w K mg base 3 (sp_error K bad) := ok_Net_error_of T bad
  have GC : O_Rest___call__ P w K mg base 3 (sp_call K bad) := ok_Rest_call T bad
  refine T.F_rested_moments.ok sc_rested_moments (fun vs H Q E h => ?_) (fun cdv A outer s H vs Q E hr h => ?_)
  · obtain ⟨n, da, tp, rs, r, ds, rfl, _⟩ := h
    rfl
  · obtain ⟨n, da, tp, rs, r, ds, rfl, N, ok, rok, hd, dok, k⟩ := h
    refine ⟨_, PSs.nox ((pss_cons (ps_set (i := 2) sc_rested_moments.nd rfl (Or.inr rfl) (show PE _ _ (tFld K _ _) from pe_fld (pv 0) rfl)) (pss_one (ps_ret (pe_lc (own := [("place", 3), ("reading", 4)]) (tt := tYes) rfl sc_rested_moments.nd (StK.pi_or2 (show PI _ _ _ (iList K _) from pi_list (pv 1)) (show PI _ _ _ (iTup K _) from pi_tup (pv 1))) (blkOk_by (own := [("place", 3), ("reading", 4)]) (N := N_rested_moments) (sc := defScope sd_rested_moments) (by decide +kernel)) (fun _ _ _ _ _ => (show PG _ _ (gTup K 2 _) from pg_tup rfl (pgs_cons (pg_name (i := 3) sc_rested_moments.nd rfl (Or.inl rfl)) (pgs_cons (pg_name (i := 4) sc_rested_moments.nd rfl (Or.inl rfl)) pgs_nil)))) (fun _ _ _ _ _ => pts_nil) (fun _ _ _ _ _ => (VrX.pe_callW (P := P) (w := w) (K := K) (mg := mg) (base := base) (pv 2) hr (pa_cons (pe_op op_add (pv 4) (pe_meth (pv 0) T.c_Net T.m_Net_error_of G_Net_error_of (hr.mono (by decide)) T.b_Net_error_of .nil pass0 (pa_cons (pv 3) pa_nil))) pa_nil)))))))), ?_⟩
    obtain ⟨dx, ra, kn, dk, ks, h1, h2, _⟩ := id N
    walk_at "go"
    refine Sx.fldA h1 T.c_Net T.n_Net_rest (v := .ref ra) (by kernel_rfl) ?_
    walk_at "go"
    refine seq_or hd.1 (fun Q q => Sx.var q) fun J hJ D nD => ?_
    refine VrX.lc_J (n := ds.length) (fun i H' => Same H H' ∧ H' D = some (.lst ((ds.take i).map fun q => V.int (momD rs r q.2)))) ⟨Sx.same_new (Sx.same_rfl _) nD, upd_same⟩
      (fun H' h => hJ.stop _ _ _ (hd.same h.1).1 (by rw [List.length_map]; exact Nat.le_refl _)) (fun i H' hi h => hJ.go _ _ _ (hd.same h.1).1 (by rw [List.length_map]; exact hi)) ?_ ?_
    · rintro i y H1 H2 hi ⟨s1, hD⟩ hy
      obtain ⟨rfl, hx⟩ := hJ.yld _ _ _ _ hy
      have hq : ds[i]? = some ds[i] := List.getElem?_eq_getElem hi
      generalize ds[i] = q at hq
      have hx2 := hx _ (hd.same s1).1
      rw [List.getElem?_map, hq] at hx2
      obtain rfl : V.ref q.1 = y := Option.some.inj hx2
      have hqm := List.mem_of_getElem? hq
      obtain ⟨u, hu, eu⟩ := List.mem_map.mp (dok.pl q hqm)
      have N1 := N.same s1
      refine Sx.gtup (SqT.of (s1 _ _ (hd.2 q hqm))) rfl ?_
      walk_at "go"
      refine ⟨rfl, ?_⟩
      walk_at "go"
      refine ⟨ra, rfl, ?_⟩
      walk_at "go"
      refine Sx.methA (s1 _ _ h1) (by kernel_rfl) ?_
      walk_at "go"
      refine ⟨n, rs, r, u, by rw [eu], N1, ok, hu, ?_⟩
      walk_at "go"
      obtain ⟨C, dc, fs, c1, c2⟩ := rest_call T (h2.same s1)
      refine ⟨C, dc, _, fs, _, _, _, 3, c1, c2, GC, Nat.le_refl _, T.b_Rest___call__, ra, _, r, rfl, h2.same s1, rok, ?_⟩
      refine ⟨_, hD, by rw [List.length_map, List.length_take, sizeLine_eq]; have := dok.len; omega, Sx.same_new s1 nD, ?_⟩
      rw [upd_same, List.take_succ, hq, List.map_append, ← er_at ok hu, eu]
      rfl
    · rintro H1 ⟨s1, hD⟩
      rw [List.take_length] at hD
      exact k D H1 s1 nD hD
/-! ### all_lines -/
def leadB (rs : List (Addr × Rw)) (r : Nt.Rs) (a b : Str × Int) : Bool := decide (momD rs r a + Nt.K (revT rs) a.1 b.1 < fstD rs b)
/-- the demands to which a leads -/
def lineOf (rs : List (Addr × Rw)) (r : Nt.Rs) (ds : List Dm) (a : Str × Int) (m : Nat) : List Nat := (List.range m).filter fun j => match ds[j]? with
  | some b => leadB rs r a b.2
  | none => false
def linesOf (rs : List (Addr × Rw)) (r : Nt.Rs) (ds : List Dm) : List (List Nat) := ds.map fun a => lineOf rs r ds a.2 ds.length
def LinesAt (H : Hp) (p : Addr) (G : List (List Nat)) : Prop := ∃ ls : List Addr, H p = some (.lst (ls.map V.ref)) ∧ ls.length = G.length ∧ ∀ (i : Nat) (l : Addr) (g : List Nat), ls[i]? = some l → G[i]? = some g → H l = some (.lst (RpX.vn g))
theorem LinesAt.same {H H' : Hp} {p : Addr} {G : List (List Nat)} (s : Same H H') (h : LinesAt H p G) : LinesAt H' p G := by
  obtain ⟨ls, h1, h2, h3⟩ := h
  exact ⟨ls, s _ _ h1, h2, fun i l g e1 e2 => s _ _ (h3 i l g e1 e2)⟩
theorem vn_app (a b : List Nat) : RpX.vn (a ++ b) = RpX.vn a ++ RpX.vn b := List.map_append
theorem lineOf_succ {rs : List (Addr × Rw)} {r : Nt.Rs} {ds : List Dm} {a : Str × Int} {j : Nat} {b : Dm} (h : ds[j]? = some b) : lineOf rs r ds a (j + 1) = lineOf rs r ds a j ++ (if leadB rs r a b.2 = true then [j] else []) := by
  unfold lineOf
  rw [List.range_succ, List.filter_append]
  congr 1
  rw [List.filter_cons, h]
  rfl
theorem lineOf_len {rs : List (Addr × Rw)} {r : Nt.Rs} {ds : List Dm} {a : Str × Int} {j : Nat} : (lineOf rs r ds a j).length ≤ j := by
  have := List.length_filter_le (fun j => match ds[j]? with | some b => leadB rs r a b.2 | none => false) (List.range j)
  rw [List.length_range] at this
  exact this
def sp_all_lines (K : PySem.W.Frag) (bad : Addr → Prop) : Sp := fun vs H Q _ => ∃ (n da : Addr) (tp : Bool) (rs : List (Addr × Rw)) (r : Nt.Rs) (ds : List Dm), vs = [.ref n, .ref da] ∧ NetAt K bad H n rs r ∧ RowsOk rs ∧ Nt.RsOk r ∧ DmAt H da tp ds ∧ DmOk rs ds ∧
  ∀ p H', Same H H' → LinesAt H' p (linesOf rs r ds) → Q (.ref p) H'
theorem ok_all_lines (T : Tx K mg) (bad : Addr → Prop) : O_all_lines P w K mg base 5 (sp_all_lines K bad) := by
  have G_Net_error_of : O_Net_error_of P w K mg base 3 (sp_error K bad) := ok_Net_error_of T bad
  have G_Net_kappa : O_Net_kappa P w K mg base 3 (sp_kappa K bad) := ok_Net_kappa T bad
  have G_rested_moments : O_rested_moments P w K mg base 4 (sp_rested K bad) := ok_rested T bad
  refine T.F_all_lines.ok sc_all_lines (fun vs H Q E h => ?_) (fun cdv A outer s H vs Q E hr h => ?_)
  · obtain ⟨n, da, tp, rs, r, ds, rfl, _⟩ := h
    rfl
  · obtain ⟨n, da, tp, rs, r, ds, rfl, N, ok, rok, hd, dok, k⟩ := h
    refine ⟨_, PSs.nox ((pss_cons (ps_set (i := 2) sc_all_lines.nd rfl (Or.inr rfl) (pe_callB (show CallR _ _ (SetX.rSortedT w) from SetX.cr_sortedT rfl) (by rfl) T.f_sorted (by decide +kernel) (pa_cons (show PE _ _ (SetX.tScT w _ _ _ _ _) from SetX.pe_scT (own := [("place", 8), ("reading", 9)]) rfl sc_all_lines.nd (StK.pi_or2 (show PI _ _ _ (iList K _) from pi_list (pv 1)) (show PI _ _ _ (iTup K _) from pi_tup (pv 1))) (blkOk_by (own := [("place", 8), ("reading", 9)]) (N := N_all_lines) (sc := defScope sd_all_lines) (by decide +kernel)) (fun _ _ _ _ _ => (show PG _ _ (gTup K 2 _) from pg_tup rfl (pgs_cons (pg_name (i := 8) sc_all_lines.nd rfl (Or.inl rfl)) (pgs_cons (pg_name (i := 9) sc_all_lines.nd rfl (Or.inl rfl)) pgs_nil)))) (fun _ _ _ _ _ => pts_nil) (fun _ _ _ _ _ => (pv 8))) pa_nil))) (pss_cons (Dc2.ps_setDc2 (i := 3) (own := [("place", 8), ("other", 12)]) (vs1 := [12]) rfl (hu_of hr) sc_all_lines.nd rfl rfl (Dc2.dsw_true rfl rfl rfl (by decide +kernel)) (show PI _ _ _ (iList K _) from pi_list (pv 2)) (blkOk_by (own := [("place", 8), ("other", 12)]) (N := N_all_lines) (sc := defScope sd_all_lines) (by decide +kernel)) (by decide) (fun _ _ _ _ _ => (pg_name (i := 8) sc_all_lines.nd rfl (Or.inl rfl))) (fun _ _ _ _ _ => (show PI _ _ _ (iList K _) from pi_list (pv 2))) (fun _ _ _ _ _ => (pg_name (i := 12) sc_all_lines.nd rfl (Or.inl rfl))) (fun _ _ _ _ _ => (pe_tup (pa_cons (pv 8) (pa_cons (pv 12) pa_nil)))) (fun _ _ _ _ _ => (pe_meth (pv 0) T.c_Net T.m_Net_kappa G_Net_kappa (hr.mono (by decide)) T.b_Net_kappa .nil pass0 (pa_cons (pv 8) (pa_cons (pv 12) pa_nil))))) (pss_cons (ps_set (i := 4) sc_all_lines.nd rfl (Or.inl rfl) (pe_call G_rested_moments (hr.mono (by decide)) rfl T.g_rested_moments T.F_rested_moments.kp T.b_rested_moments .nil pass0 (pa_cons (pv 0) (pa_cons (pv 1) pa_nil)))) (pss_cons (ps_setLc (i := 5) (own := [("place", 8), ("reading", 9)]) (tt := tYes) rfl sc_all_lines.nd rfl rfl (sw_true rfl rfl rfl (by decide +kernel)) (StK.pi_or2 (show PI _ _ _ (iList K _) from pi_list (pv 1)) (show PI _ _ _ (iTup K _) from pi_tup (pv 1))) (blkOk_by (own := [("place", 8), ("reading", 9)]) (N := N_all_lines) (sc := defScope sd_all_lines) (by decide +kernel)) (fun _ _ _ _ _ => (show PG _ _ (gTup K 2 _) from pg_tup rfl (pgs_cons (pg_name (i := 8) sc_all_lines.nd rfl (Or.inl rfl)) (pgs_cons (pg_name (i := 9) sc_all_lines.nd rfl (Or.inl rfl)) pgs_nil)))) (fun _ _ _ _ _ => pts_nil) (fun _ _ _ _ _ => (pe_op op_sub (pv 9) (pe_meth (pv 0) T.c_Net T.m_Net_error_of G_Net_error_of (hr.mono (by decide)) T.b_Net_error_of .nil pass0 (pa_cons (pv 8) pa_nil))))) (pss_cons (ps_set (i := 6) sc_all_lines.nd rfl (Or.inl rfl) (pe_lst pa_nil)) (pss_cons (ps_for PassesOwn.never rfl (StK.pi_or2 (show PI _ _ _ (iEnum K _) from pi_enum (by rfl) T.f_enumerate (pa_cons (pv 1) pa_nil)) (show PI _ _ _ (EnT.iEnumT K _) from EnT.pi_enumT (by rfl) T.f_enumerate (pa_cons (pv 1) pa_nil))) (show PG _ _ (gTup K 2 _) from pg_tup rfl (pgs_cons (pg_name (i := 7) sc_all_lines.nd rfl (Or.inl rfl)) (pgs_cons (show PG _ _ (gTup K 2 _) from pg_tup rfl (pgs_cons (pg_name (i := 8) sc_all_lines.nd rfl (Or.inl rfl)) (pgs_cons (pg_name (i := 9) sc_all_lines.nd rfl (Or.inl rfl)) pgs_nil))) pgs_nil))) (pss_cons (ps_set (i := 10) sc_all_lines.nd rfl (Or.inl rfl) (pe_lst pa_nil)) (pss_cons (ps_for PassesOwn.never rfl (StK.pi_or2 (show PI _ _ _ (iEnum K _) from pi_enum (by rfl) T.f_enumerate (pa_cons (pv 1) pa_nil)) (show PI _ _ _ (EnT.iEnumT K _) from EnT.pi_enumT (by rfl) T.f_enumerate (pa_cons (pv 1) pa_nil))) (show PG _ _ (gTup K 2 _) from pg_tup rfl (pgs_cons (pg_name (i := 11) sc_all_lines.nd rfl (Or.inl rfl)) (pgs_cons (show PG _ _ (gTup K 2 _) from pg_tup rfl (pgs_cons (pg_name (i := 12) sc_all_lines.nd rfl (Or.inl rfl)) (pgs_cons (pg_name (i := 13) sc_all_lines.nd rfl (Or.inl rfl)) pgs_nil))) pgs_nil))) (pss_one (ps_if (pt_cmpR op_gt (pe_ix (Kw.ixL K) (pv 5) (pv 11) (fun _ _ => rfl)) (pe_op op_add (pe_ix (Kw.ixL K) (pv 4) (pv 7) (fun _ _ => rfl)) (pe_dget (hu_of hr) (pv 3) (pe_tup (pa_cons (pv 8) (pa_cons (pv 12) pa_nil))) (fun _ _ => rfl))) (nomark _)) (pss_one (ps_expr (show PE _ _ (tBM K _ _ _ _) from pe_bm PySem.F.plainAttrs_list PySem.F.slot_list_append PySem.F.type_list_append mt_append (pv 10) (pa_cons (pv 11) pa_nil)))) pss_nil))) (pss_one (ps_expr (show PE _ _ (tBM K _ _ _ _) from pe_bm PySem.F.plainAttrs_list PySem.F.slot_list_append PySem.F.type_list_append mt_append (pv 6) (pa_cons (pv 10) pa_nil))))))) (pss_one (ps_ret (pv 6)))))))))), ?_⟩
    walk_at "go"
    refine seq_or hd.1 (fun Q q => Sx.var q) fun J hJ D nD => ?_
    have hdl : (dmV ds).length = ds.length := List.length_map _
    refine SetX.scT_list (K := K) (a := da) (xs := dmV ds) (fun i H' => Same H H' ∧ ∃ l, H' D = some (SetX.SetTO w D l) ∧ l.length ≤ i ∧ (∀ x ∈ l, x ∈ rwN rs) ∧ ∀ q ∈ ds.take i, q.2.1 ∈ l) ⟨Sx.same_new (Sx.same_rfl _) nD, [], upd_same, Nat.le_refl _, fun x hx => (by cases hx), fun q hq => (by cases hq)⟩
      (fun H' h => hJ.stop _ _ _ (hd.same h.1).1 (Nat.le_refl _)) (fun i H' hi h => hJ.go _ _ _ (hd.same h.1).1 hi) (fun i x H1 H2 h y => let z := hJ.yld _ _ _ _ y; ⟨z.2 _ (hd.same h.1).1, z.1⟩) ?_ ?_
    · rintro i y H1 hy ⟨s1, l, hD, l1, l2, l3⟩
      rw [List.getElem?_map] at hy
      obtain ⟨q, hq, rfl⟩ := Option.map_eq_some_iff.mp hy
      have hqm := List.mem_of_getElem? hq
      have hi := (List.getElem?_eq_some_iff.mp hq).1
      refine Sx.gtup (SqT.of (s1 _ _ (hd.2 q hqm))) rfl ?_
      walk_at "go"
      refine ⟨rfl, ?_⟩
      walk_at "go"
      refine ⟨q.2.1, l, rfl, hD, by have := dok.len; show _ < 4096; omega, Sx.same_new s1 nD, _, upd_same, Nat.succ_le_succ l1, ?_, ?_⟩
      · intro x hx
        rcases List.mem_cons.mp hx with z | z
        · rw [z]
          exact dok.pl q hqm
        · exact l2 x z
      · intro u hu
        rw [List.take_succ, hq] at hu
        rcases List.mem_append.mp hu with z | z
        · exact List.mem_cons_of_mem _ (l3 u z)
        · rw [List.mem_singleton.mp z]
          exact List.mem_cons_self
    rintro H1 ⟨s1, l, hD, l1, l2, l3⟩
    rw [hdl] at l1 l3
    rw [List.take_length] at l3
    walk_at "go"
    refine ⟨D, l, rfl, hD, by have := dok.len; omega, fun ys p hy hyl np => ?_⟩
    have s2 : Same H (upd H1 p (.lst (ys.map V.str))) := Sx.same_new s1 (Sx.new_none s1 np)
    have hp : (upd H1 p (.lst (ys.map V.str))) p = some (.lst (ys.map V.str)) := upd_same
    generalize upd H1 p (.lst (ys.map V.str)) = H2 at s2 hp
    have hyn : ys.length ≤ 60 := by have := dok.len; omega
    have hym : ∀ x ∈ ys, x ∈ rwN rs := fun x hx => l2 x ((hy x).mp hx)
    have hyd : ∀ q ∈ ds, q.2.1 ∈ ys := fun q hq => (hy _).mpr (l3 q hq)
    have hyv : (ys.map V.str).length = ys.length := List.length_map _
    clear hD l1 l2 l3 hy hyl
    walk_at "go"
    refine ⟨p, rfl, ⟨_, SqL.of hp⟩, fun D2 nD2 => ?_⟩
    have npD : p ≠ D2 := ne_of_none hp nD2
    refine VrX.in_J (n := ys.length) (fun i H' => (Same H H' ∧ H' p = some (.lst (ys.map V.str))) ∧ ∃ kvs : List (List Key × V), H' D2 = some (.dT kvs) ∧ kvs.length ≤ i * ys.length ∧ ∀ a ∈ ys.take i, ∀ b ∈ ys, valV kvs [Sum.inr a, Sum.inr b] = some (.int (Nt.K (revT rs) a b)))
      ⟨⟨Sx.same_new s2 (Sx.new_none s2 nD2), by rw [upd_ne npD]; exact hp⟩, [], upd_same, Nat.zero_le _, fun a ha => (by cases ha)⟩
      (fun H' h => ⟨_, SqL.of h.1.2, by rw [hyv]; exact Nat.le_refl _⟩) (fun i H' hi h => ⟨_, _, SqL.of h.1.2, List.getElem?_eq_getElem (by rw [hyv]; exact hi)⟩) ?_ ?_
    · rintro i y H3 H4 hi ⟨⟨s3, hp3⟩, kvs, hD3, k1, k2⟩ ⟨rfl, hyy⟩
      have ha : ys[i]? = some ys[i] := List.getElem?_eq_getElem hi
      generalize ys[i] = a at ha
      have hy2 := hyy _ (SqL.of hp3)
      rw [List.getElem?_map, ha] at hy2
      obtain rfl : V.str a = y := Option.some.inj hy2
      have ham := List.mem_of_getElem? ha
      walk_at "go"
      refine ⟨rfl, ?_⟩
      walk_at "go"
      refine ⟨p, rfl, ⟨_, SqL.of hp3⟩, VrX.in_J (n := ys.length) (fun j H' => (Same H H' ∧ H' p = some (.lst (ys.map V.str))) ∧ ∃ kvs : List (List Key × V), H' D2 = some (.dT kvs) ∧ kvs.length ≤ i * ys.length + j ∧ (∀ a ∈ ys.take i, ∀ b ∈ ys, valV kvs [Sum.inr a, Sum.inr b] = some (.int (Nt.K (revT rs) a b))) ∧ ∀ b ∈ ys.take j, valV kvs [Sum.inr a, Sum.inr b] = some (.int (Nt.K (revT rs) a b)))
        ⟨⟨s3, hp3⟩, kvs, hD3, k1, k2, fun b hb => (by cases hb)⟩ (fun H' h => ⟨_, SqL.of h.1.2, by rw [hyv]; exact Nat.le_refl _⟩) (fun j H' hj h => ⟨_, _, SqL.of h.1.2, List.getElem?_eq_getElem (by rw [hyv]; exact hj)⟩) ?_ ?_⟩
      · rintro j y H5 H6 hj ⟨⟨s5, hp5⟩, kvs, hD5, k1, k2, k3⟩ ⟨rfl, hyy⟩
        have hb : ys[j]? = some ys[j] := List.getElem?_eq_getElem hj
        generalize ys[j] = b at hb
        have hy2 := hyy _ (SqL.of hp5)
        rw [List.getElem?_map, hb] at hy2
        obtain rfl : V.str b = y := Option.some.inj hy2
        have hbm := List.mem_of_getElem? hb
        walk_at "go"
        refine ⟨rfl, ?_⟩
        walk_at "go"
        refine Sx.nw (by show 2 ≤ _; decide) fun t nt => ?_
        have s6 : Same H6 (upd H6 t (.tup [V.str a, V.str b])) := Sx.same_new (Sx.same_rfl _) nt
        have ht : (upd H6 t (.tup [V.str a, V.str b])) t = some (.tup [V.str a, V.str b]) := upd_same
        generalize upd H6 t (.tup [V.str a, V.str b]) = H7 at s6 ht
        have N7 := N.same (Same.trans s5 s6)
        obtain ⟨dx, ra, kn, dk, ks, g1, _⟩ := id N7
        obtain ⟨ua, hua, eua⟩ := List.mem_map.mp (hym a ham)
        obtain ⟨ub, hub, eub⟩ := List.mem_map.mp (hym b hbm)
        walk_at "go"
        refine Sx.methA g1 (by kernel_rfl) ?_
        walk_at "go"
        refine ⟨n, rs, r, ua, ub, by rw [eua, eub], N7, ok, hua, hub, ?_⟩
        rw [eua, eub]
        have hkl : kvs.length ≤ 60 * 60 + 60 := by
          have : i * ys.length ≤ 60 * 60 := Nat.mul_le_mul (by omega) hyn
          omega
        refine ⟨kvs, [Sum.inr a, Sum.inr b], t, rfl, ht, s6 _ _ hD5, by rw [sizeLine_eq]; omega, ⟨Sx.same_new (Same.trans s5 s6) (Sx.new_none s2 nD2), by rw [upd_ne npD]; exact s6 _ _ hp5⟩, _, upd_same, Nat.le_trans (length_putK _ _ _) (by omega), fun a' ha' b' hb' => ?_, fun b' hb' => ?_⟩
        · rw [valV_put]
          split
          · rename_i z
            have z1 := List.cons.inj z
            have z2 := List.cons.inj z1.2
            rw [Sum.inr.inj z1.1, Sum.inr.inj z2.1]
          · exact k2 a' ha' b' hb'
        · rw [valV_put]
          by_cases hbb : b' = b
          · rw [hbb, if_pos rfl]
          · rw [if_neg (fun z => hbb (Sum.inr.inj (List.cons.inj (List.cons.inj z).2).1))]
            rw [List.take_succ, hb] at hb'
            rcases List.mem_append.mp hb' with z | z
            · exact k3 b' z
            · exact absurd (List.mem_singleton.mp z) hbb
      · rintro H5 ⟨⟨s5, hp5⟩, kvs, hD5, k1, k2, k3⟩
        rw [List.take_length] at k3
        refine ⟨⟨s5, hp5⟩, kvs, hD5, by rw [Nat.succ_mul]; exact k1, fun a' ha' b hb => ?_⟩
        rw [List.take_succ, ha] at ha'
        rcases List.mem_append.mp ha' with z | z
        · exact k2 a' z b hb
        · rw [List.mem_singleton.mp z]
          exact k3 b hb
    rintro H3 ⟨⟨s3, hp3⟩, kvs, hD3, k1, k2⟩
    rw [List.take_length] at k2
    have hK : ∀ q ∈ ds, ∀ u ∈ ds, valV kvs [Sum.inr q.2.1, Sum.inr u.2.1] = some (.int (Nt.K (revT rs) q.2.1 u.2.1)) := fun q hq u hu => k2 _ (hyd q hq) _ (hyd u hu)
    clear k1 k2 hym hyd hyn hyv
    walk_at "go"
    refine ⟨n, da, tp, rs, r, ds, rfl, N.same s3, ok, rok, hd.same s3, dok, fun pr H4 s4 n4 hpr => ?_⟩
    have s04 := Same.trans s3 s4
    have hD4 := s4 _ _ hD3
    walk_at "go"
    refine seq_or (hd.same s04).1 (fun Q q => Sx.var q) fun J2 hJ2 pf npf => ?_
    refine VrX.lc_J (n := ds.length) (fun i H' => (Same H4 H') ∧ H' pf = some (.lst ((ds.take i).map fun q => V.int (fstD rs q.2)))) ⟨Sx.same_new (Sx.same_rfl _) npf, upd_same⟩
      (fun H' h => hJ2.stop _ _ _ (hd.same (Same.trans s04 h.1)).1 (by rw [List.length_map]; exact Nat.le_refl _)) (fun i H' hi h => hJ2.go _ _ _ (hd.same (Same.trans s04 h.1)).1 (by rw [List.length_map]; exact hi)) ?_ ?_
    · rintro i y H5 H6 hi ⟨s5, hpf⟩ hy
      obtain ⟨rfl, hx⟩ := hJ2.yld _ _ _ _ hy
      have hq : ds[i]? = some ds[i] := List.getElem?_eq_getElem hi
      generalize ds[i] = q at hq
      have s05 := Same.trans s04 s5
      have hx2 := hx _ (hd.same s05).1
      rw [List.getElem?_map, hq] at hx2
      obtain rfl : V.ref q.1 = y := Option.some.inj hx2
      have hqm := List.mem_of_getElem? hq
      obtain ⟨u, hu, eu⟩ := List.mem_map.mp (dok.pl q hqm)
      have N5 := N.same s05
      obtain ⟨dx, ra, kn, dk, ks, g1, _⟩ := id N5
      refine Sx.gtup (SqT.of (s05 _ _ (hd.2 q hqm))) rfl ?_
      walk_at "go"
      refine ⟨rfl, ?_⟩
      walk_at "go"
      refine Sx.methA g1 (by kernel_rfl) ?_
      walk_at "go"
      refine ⟨n, rs, r, u, by rw [eu], N5, ok, hu, ?_⟩
      walk_at "go"
      refine ⟨_, hpf, by rw [List.length_map, List.length_take, sizeLine_eq]; have := dok.len; omega, Sx.same_new s5 npf, ?_⟩
      rw [upd_same, List.take_succ, hq, List.map_append, ← er_at ok hu, eu]
      rfl
    rintro H5 ⟨s5, hpf⟩
    rw [List.take_length] at hpf
    have s05 := Same.trans s04 s5
    have hD5 := s5 _ _ hD4
    have hpr5 := s5 _ _ hpr
    walk_at "go"
    refine Sx.nw (by decide) fun pl npl => ?_
    have dlen := dok.len
    walk_at "go"
    refine enu_or (hd.same (Same.trans s05 (Sx.same_new (Sx.same_rfl _) npl))).1 (fun Q q => Sx.cons (Sx.var (Sx.nil q))) fun J3 hJ3 => ?_
    refine VrX.for_J (n := ds.length) (fun i σ H' => (Same H5 H' ∧ LinesAt H' pl ((linesOf rs r ds).take i)) ∧ ∃ v7 v8 v9 v10 v11 v12 v13, σ = [some (.ref n), some (.ref da), some (.ref p), some (.ref D2), some (.ref pr), some (.ref pf), some (.ref pl), v7, v8, v9, v10, v11, v12, v13])
      ⟨⟨Sx.same_new (Sx.same_rfl _) npl, [], upd_same, rfl, fun i l g e => (by cases e)⟩, _, _, _, _, _, _, _, rfl⟩
      (fun σ H' h => hJ3.stop _ _ _ (hd.same (Same.trans s05 h.1.1)).1 (by rw [List.length_map]; exact Nat.le_refl _)) (fun i σ H' hi h => hJ3.go _ _ _ (hd.same (Same.trans s05 h.1.1)).1 (by rw [List.length_map]; exact hi)) ?_ ?_
    · rintro i y σ H6 H7 hi ⟨⟨s6, ls, hpl, ll, hls⟩, v7, v8, v9, v10, v11, v12, v13, rfl⟩ hy
      obtain ⟨U, x, rfl, nU, rfl, hx⟩ := hJ3.yld _ _ _ _ hy
      have hq : ds[i]? = some ds[i] := List.getElem?_eq_getElem hi
      generalize ds[i] = q at hq
      have s06 := Same.trans s05 s6
      have hx2 := hx _ (hd.same s06).1
      rw [List.getElem?_map, hq] at hx2
      obtain rfl : V.ref q.1 = x := Option.some.inj hx2
      have hqm := List.mem_of_getElem? hq
      refine Sx.gtup (SqT.of upd_same) rfl ?_
      have s7 : Same H6 (upd H6 U (.tup [V.int (i : Nat), V.ref q.1])) := Sx.same_new (Sx.same_rfl _) nU
      generalize upd H6 U (.tup [V.int (i : Nat), V.ref q.1]) = H7 at s7
      walk_at "go"
      refine Sx.gtup (SqT.of (s7 _ _ (s06 _ _ (hd.2 q hqm)))) rfl ?_
      walk_at "go"
      refine Sx.nw (by decide) fun lp nlp => ?_
      walk_at "go"
      have s07 := Same.trans s06 s7
      refine enu_or (hd.same (Same.trans s07 (Sx.same_new (Sx.same_rfl _) nlp))).1 (fun Q q => Sx.cons (Sx.var (Sx.nil q))) fun J4 hJ4 => ?_
      refine VrX.for_J (n := ds.length) (fun j σ H' => (Same H7 H' ∧ H' lp = some (.lst (RpX.vn (lineOf rs r ds q.2 j)))) ∧ ∃ v11 v12 v13, σ = [some (.ref n), some (.ref da), some (.ref p), some (.ref D2), some (.ref pr), some (.ref pf), some (.ref pl), some (.int (i : Nat)), some (.str q.2.1), some (.int q.2.2), some (.ref lp), v11, v12, v13])
        ⟨⟨Sx.same_new (Sx.same_rfl _) nlp, upd_same⟩, _, _, _, rfl⟩
        (fun σ H' h => hJ4.stop _ _ _ (hd.same (Same.trans s07 h.1.1)).1 (by rw [List.length_map]; exact Nat.le_refl _)) (fun j σ H' hj h => hJ4.go _ _ _ (hd.same (Same.trans s07 h.1.1)).1 (by rw [List.length_map]; exact hj)) ?_ ?_
      · rintro j y σ H8 H9 hj ⟨⟨s8, hlp⟩, v11, v12, v13, rfl⟩ hy
        obtain ⟨U2, x, rfl, nU2, rfl, hx⟩ := hJ4.yld _ _ _ _ hy
        have hu : ds[j]? = some ds[j] := List.getElem?_eq_getElem hj
        generalize ds[j] = u at hu
        have s08 := Same.trans s07 s8
        have hx2 := hx _ (hd.same s08).1
        rw [List.getElem?_map, hu] at hx2
        obtain rfl : V.ref u.1 = x := Option.some.inj hx2
        have hum := List.mem_of_getElem? hu
        refine Sx.gtup (SqT.of upd_same) rfl ?_
        have s9 : Same H8 (upd H8 U2 (.tup [V.int (j : Nat), V.ref u.1])) := Sx.same_new (Sx.same_rfl _) nU2
        generalize upd H8 U2 (.tup [V.int (j : Nat), V.ref u.1]) = H9 at s9
        have s59 := Same.trans s6 (Same.trans s7 (Same.trans s8 s9))
        walk_at "go"
        refine Sx.gtup (SqT.of (s9 _ _ (s08 _ _ (hd.2 u hum)))) rfl ?_
        walk_at "go"
        refine Sx.ixL (SqL.of (s59 _ _ hpf)) (v := .int (fstD rs u.2)) (atI_nat (j := j) (by rw [List.getElem?_map, hu]; rfl)) ?_
        walk_at "go"
        refine Sx.ixL (SqL.of (s59 _ _ hpr5)) (v := .int (momD rs r q.2)) (atI_nat (j := i) (by rw [List.getElem?_map, hq]; rfl)) ?_
        walk_at "go"
        refine Sx.nw (by show 2 ≤ _; decide) fun t nt => ?_
        have st : Same H9 (upd H9 t (.tup [V.str q.2.1, V.str u.2.1])) := Sx.same_new (Sx.same_rfl _) nt
        have ht : (upd H9 t (.tup [V.str q.2.1, V.str u.2.1])) t = some (.tup [V.str q.2.1, V.str u.2.1]) := upd_same
        generalize upd H9 t (.tup [V.str q.2.1, V.str u.2.1]) = H10 at st ht
        refine ⟨D2, .int (Nt.K (revT rs) q.2.1 u.2.1), rfl, by rw [← hK q hqm u hum]; exact DGet.t (k := [Sum.inr q.2.1, Sum.inr u.2.1]) (st _ _ (s59 _ _ hD5)) ht, ?_⟩
        walk_at "go"
        have hlp10 := st _ _ (s9 _ _ hlp)
        have s710 : Same H7 H10 := Same.trans s8 (Same.trans s9 st)
        have hln := lineOf_len (rs := rs) (r := r) (ds := ds) (a := q.2) (j := j)
        refine Sx.ifd (fun c => ?_) (fun c => ?_)
        · walk_at "go"
          refine Sx.appA hlp10 ?_
          walk_at "go"
          refine Sx.appB hlp10 (by rw [List.length_map]; omega) ?_
          refine ⟨⟨Sx.same_new s710 nlp, ?_⟩, _, _, _, rfl⟩
          rw [upd_same, lineOf_succ hu, if_pos (show leadB rs r q.2 u.2 = true from decide_eq_true c), vn_app]
          rfl
        · walk_at "go"
          refine ⟨⟨s710, ?_⟩, _, _, _, rfl⟩
          rw [lineOf_succ hu, if_neg (fun z => c (of_decide_eq_true (show leadB rs r q.2 u.2 = true from z))), List.append_nil]
          exact hlp10
      · rintro σ H8 ⟨⟨s8, hlp⟩, v11, v12, v13, rfl⟩
        have hpl8 := s8 _ _ (s7 _ _ hpl)
        have lll : ls.length ≤ 60 := by rw [ll, List.length_take]; unfold linesOf; rw [List.length_map]; omega
        walk_at "go"
        refine Sx.appA hpl8 ?_
        walk_at "go"
        refine Sx.appB hpl8 (by rw [List.length_map]; omega) ?_
        have hg : (linesOf rs r ds)[i]? = some (lineOf rs r ds q.2 ds.length) := by unfold linesOf; rw [List.getElem?_map, hq]; rfl
        refine ⟨⟨Sx.same_new (Same.trans s6 (Same.trans s7 s8)) npl, ls ++ [lp], ?_, ?_, ?_⟩, _, _, _, _, _, _, _, rfl⟩
        · rw [upd_same, List.map_append]
          rfl
        · rw [List.take_succ, hg, List.length_append, List.length_append, ll]
          rfl
        · intro m l g e1 e2
          have nlpl : ∀ z g', H8 z = some (.lst (RpX.vn g')) → z ≠ pl → (upd H8 pl (.lst (ls.map V.ref ++ [V.ref lp]))) z = some (.lst (RpX.vn g')) := fun z g' e hz => by rw [upd_ne hz]; exact e
          rw [List.take_succ, hg] at e2
          have hil : ((linesOf rs r ds).take i).length = ls.length := ll.symm
          by_cases hm : m < ls.length
          · rw [List.getElem?_append_left hm] at e1
            rw [List.getElem?_append_left (by rw [hil]; exact hm)] at e2
            refine nlpl _ _ (s8 _ _ (s7 _ _ (hls m l g e1 e2))) fun z => ?_
            rw [z] at e1
            have := hls m pl g e1 e2
            rw [hpl] at this
            have e3 : ls.map V.ref = RpX.vn g := HO.lst.inj (Option.some.inj this)
            have e4 : (ls.map V.ref)[m]? = (RpX.vn g)[m]? := by rw [e3]
            rw [List.getElem?_map, e1, List.getElem?_map] at e4
            cases e5 : g[m]? with
            | none => rw [e5] at e4; cases e4
            | some z => rw [e5] at e4; cases e4
          · rw [List.getElem?_append_right (by omega)] at e1
            rw [List.getElem?_append_right (by rw [hil]; omega), hil] at e2
            cases e6 : m - ls.length with
            | zero =>
              rw [e6] at e1 e2
              obtain rfl : lp = l := Option.some.inj e1
              obtain rfl : lineOf rs r ds q.2 ds.length = g := Option.some.inj e2
              refine nlpl _ _ hlp fun z => ?_
              rw [z] at nlp
              rw [s7 _ _ hpl] at nlp
              cases nlp
            | succ z =>
              rw [e6] at e1
              cases e1
    · rintro σ H6 ⟨⟨s6, hL⟩, v7, v8, v9, v10, v11, v12, v13, rfl⟩
      walk_at "go"
      have e : (linesOf rs r ds).take ds.length = linesOf rs r ds := by
        refine List.take_of_length_le ?_
        unfold linesOf
        rw [List.length_map]
        exact Nat.le_refl _
      rw [e] at hL
      exact k pl H6 (Same.trans s05 s6) hL
end
end Wk

set_option Elab.async false
set_option linter.all false
set_option maxRecDepth 100000
set_option maxHeartbeats 2000000
namespace Wk
open PySem PySem.Spec PyProof.Rows L2 NdefX SuX Hk
local macro_rules | `(tactic| walk_at "st") => `(tactic| first
  | with_reducible refine Sx.ret ?_
  | with_reducible refine Sx.retN ?_
  | with_reducible refine Sx.seq ?_
  | with_reducible refine Sx.next ?_
  | with_reducible refine Sx.brk ?_
  | with_reducible refine Sx.cont ?_
  | with_reducible refine Sx.drop ?_
  | with_reducible refine Sx.asg ?_
  | with_reducible refine Sx.gname ?_
  | with_reducible refine Sx.ifS ?_
  | with_reducible refine Sx.var ?_
  | with_reducible refine Sx.con ?_
  | with_reducible refine Sx.op ?_
  | with_reducible refine Sx.un ?_
  | with_reducible refine Sx.cb ?_
  | with_reducible refine Sx.cons ?_
  | with_reducible refine Sx.nil ?_
  | with_reducible refine Sx.call ?_
  | with_reducible refine Sx.test ?_
  | with_reducible refine Sx.tb_ ?_
  | with_reducible refine Sx.bl ?_
  | with_reducible refine Sx.and_ ?_
  | with_reducible refine Sx.or_ ?_
  | with_reducible refine Sx.not_ ?_
  | with_reducible refine Sx.andV ?_
  | with_reducible refine Sx.orV ?_
  | with_reducible refine Sx.notV ?_
  | with_reducible refine Sx.ife ?_
  | with_reducible refine Sx.i0 ?_
  | with_reducible refine Sx.iU ?_
  | with_reducible refine Sx.eqI ?_
  | with_reducible refine Sx.eqS ?_
  | with_reducible refine Sx.neI ?_
  | with_reducible refine Sx.neS ?_
  | with_reducible refine Sx.isN' ?_
  | with_reducible refine Sx.chain ?_
  | with_reducible refine Sx.aug ?_
  | with_reducible refine Sx.ipI' ?_
  | with_reducible refine Sx.ifT ?_
  | with_reducible refine Sx.ifF ?_
  | with_reducible refine Sx.ifnF ?_
  | with_reducible refine Sx.ifnT ?_
  | with_reducible refine Sx.tup ?_
  | with_reducible refine Sx.lst ?_
  | with_reducible refine Sx.fld ?_
  | with_reducible refine Sx.sfld ?_
  | with_reducible refine Sx.meth ?_
  | with_reducible refine Sx.app ?_
  | with_reducible refine Sx.gcons ?_
  | with_reducible refine Sx.gnil ?_
  | with_reducible refine Sx.dget ?_
  | with_reducible refine Sx.din ?_
  | with_reducible refine Sx.dnin ?_
  | with_reducible refine Sx.dput ?_
  | with_reducible refine Sx.forS ?_
  | with_reducible refine Sx.ikeys ?_
  | with_reducible refine Sx.ienumT ?_
  | with_reducible refine Sx.scT ?_
  | with_reducible refine Sx.dc2 ?_
  | with_reducible refine Sx.tru ?_
  | with_reducible refine Sx.mv ?_
  | with_reducible refine Sx.cv ?_
  | with_reducible refine Sx.cw ?_
  | with_reducible refine Sx.join ?_
  | with_reducible refine Sx.lc ?_
  | with_reducible refine Sx.istr ?_
  | with_reducible refine Sx.ilist ?_
  | with_reducible refine Sx.itup ?_
  | with_reducible refine Sx.irng1 ?_
  | with_reducible refine Sx.irng2 ?_
  | with_reducible refine Sx.ienum ?_
  | with_reducible refine Sx.izip ?_
  | with_reducible refine Sx.irev ?_
  | with_reducible refine Sx.iitems ?_
  | with_reducible refine Sx.yes ?_
  | with_reducible refine Sx.js_cons ?_
  | with_reducible refine Sx.js_nil ?_
  | with_reducible refine Sx.fmt ?_
  | with_reducible refine Sx.isi_int ?_
  | with_reducible refine Sx.isi_intb ?_
  | with_reducible refine Sx.isi_str ?_)
local macro_rules | `(tactic| walk_at "go") => `(tactic| repeat walk_at "st")
local macro_rules | `(tactic| walk_at "is") => `(tactic| simp only [Option.isSome_some, Option.isSome_none, Bool.not_true, Bool.not_false])
/-! Matchings. -/
section
variable {P : Program} {w : World} {K : PySem.W.Frag} {mg : Str → Option Value} {base : Heap}
/-- the dict at d is the map R on numbers below n -/
def DR (H : Hp) (d : Addr) (R : Ma.Mp) (n : Nat) : Prop := ∃ kvs : List (Key × V), H d = some (.dK kvs) ∧ (∀ k : Nat, valV kvs (Sum.inl (k : Int)) = (R k).map fun v => V.int (v : Nat)) ∧ kvs.length = (List.range n).countP (fun k => (R k).isSome)
theorem DR.same {H H' : Hp} {d : Addr} {R : Ma.Mp} {n : Nat} (s : H' d = H d) (h : DR H d R n) : DR H' d R n := by
  obtain ⟨kvs, h1, h2⟩ := h
  exact ⟨kvs, s.trans h1, h2⟩
theorem count_up {R : Ma.Mp} {k v n : Nat} (hk : k < n) : (List.range n).countP (fun j => (Ma.up R k v j).isSome) = (List.range n).countP (fun j => (R j).isSome) + (if (R k).isSome = true then 0 else 1) := by
  induction n with
  | zero => omega
  | succ n ih =>
    rw [List.range_succ, List.countP_append, List.countP_append]
    have one : ∀ S : Ma.Mp, [n].countP (fun j => (S j).isSome) = if (S n).isSome = true then 1 else 0 := fun S => by
      rw [List.countP_cons]
      simp
    rw [one, one]
    by_cases e : k = n
    · subst e
      have e2 : (List.range k).countP (fun j => (Ma.up R k v j).isSome) = (List.range k).countP (fun j => (R j).isSome) := by
        refine List.countP_congr fun j hj => ?_
        have : j ≠ k := by have := List.mem_range.mp hj; omega
        rw [Ma.up_ne this]
      rw [e2, Ma.up_same]
      cases (R k) <;> simp
    · rw [ih (by omega), Ma.up_ne (Ne.symm e)]
      omega
theorem put_len {κ : Type} [DecidableEq κ] {kvs : List (κ × V)} {k : κ} {v : V} : (putK kvs k v).length = kvs.length + if (valV kvs k).isSome = true then 0 else 1 := by
  cases e : valV kvs k with
  | none =>
    rw [putK_new v e, List.length_append]
    rfl
  | some u =>
    unfold putK
    rw [valV_any, e]
    simp
theorem DR.put {H : Hp} {d : Addr} {R : Ma.Mp} {n k v : Nat} (h : DR H d R n) (hk : k < n) : ∃ kvs, H d = some (.dK kvs) ∧ kvs.length ≤ n ∧ DR (upd H d (.dK (putK kvs (Sum.inl (k : Int)) (.int (v : Nat))))) d (Ma.up R k v) n := by
  obtain ⟨kvs, h1, h2, h3⟩ := h
  refine ⟨kvs, h1, ?_, _, upd_same, fun j => ?_, ?_⟩
  · rw [h3]
    have := List.countP_le_length (p := fun k => (R k).isSome) (l := List.range n)
    rwa [List.length_range] at this
  · rw [valV_put]
    by_cases e : j = k
    · rw [e, if_pos rfl, Ma.up_same]
      rfl
    · rw [if_neg (fun z => e (by have := Sum.inl.inj z; omega)), Ma.up_ne e]
      exact h2 j
  · rw [put_len, count_up hk, h3, h2]
    cases R k <;> rfl
theorem DR.empty {H : Hp} {d : Addr} {n : Nat} (h : H d = some (.dK [])) : DR H d (fun _ => none) n := ⟨[], h, fun k => rfl, by simp⟩
theorem DR.get {H : Hp} {d : Addr} {R : Ma.Mp} {n : Nat} (h : DR H d R n) (k : Nat) : DGet H d (.int (k : Nat)) ((R k).map fun v => V.int (v : Nat)) := by
  obtain ⟨kvs, h1, h2, _⟩ := h
  rw [← h2 k]
  exact DGet.k (k := Sum.inl (k : Int)) h1
theorem DR.isd {H : Hp} {d : Addr} {R : Ma.Mp} {n : Nat} (h : DR H d R n) : IsD H d := let ⟨kvs, h1, _⟩ := h; .inl ⟨kvs, .inl h1⟩
theorem dg1 {td ty : TE} {σ : L2.St} {H : Hp} {Q : VK} (k : td σ H fun x H1 => ∃ a, x = .ref a ∧ IsD H1 a ∧ ty σ H1 fun y H2 => ∃ o, DGet H2 a y o ∧ Q (o.getD .non) H2) : tDGet1 td ty σ H Q := k
def oV (o : Option Nat) : V := match o with
  | none => .non
  | some r => .int (r : Nat)
abbrev mf (p dr dl : Addr) : List (Str × V) := [("_lines", .ref p), ("_rights", .ref dr), ("_lefts", .ref dl)]
/-- a matching object -/
structure MatO (K : PySem.W.Frag) (H : Hp) (m p dr dl : Addr) : Prop where
  at_ : ∃ dx, H m = some (.ins (gC K "Matching") dx (mf p dr dl))
  ne : dr ≠ dl
/-- all but two -/
def Stay2 (a b : Addr) (H H' : Hp) : Prop := ∀ x o, x ≠ a → x ≠ b → H x = some o → H' x = some o
theorem stay2_rfl {a b : Addr} {H : Hp} : Stay2 a b H H := fun _ _ _ _ e => e
theorem stay2_tr {a b : Addr} {A B C : Hp} (h : Stay2 a b A B) (h' : Stay2 a b B C) : Stay2 a b A C := fun x o h1 h2 e => h' x o h1 h2 (h x o h1 h2 e)
theorem stay2_l {a b : Addr} {H : Hp} {o : HO} : Stay2 a b H (upd H a o) := fun x u h1 h2 e => by rw [upd_ne h1]; exact e
theorem stay2_r {a b : Addr} {H : Hp} {o : HO} : Stay2 a b H (upd H b o) := fun x u h1 h2 e => by rw [upd_ne h2]; exact e
theorem stay2_same {a b : Addr} {H H' : Hp} (s : Same H H') : Stay2 a b H H' := fun x o _ _ e => s x o e
def sp_change (K : PySem.W.Frag) : Sp := fun vs H Q _ => ∃ (m p dr dl cm : Addr) (r n f : Nat) (c R L : Ma.Mp), vs = [.ref m, .int (r : Nat), .ref cm] ∧ MatO K H m p dr dl ∧ n ≤ 100 ∧ DR H dr R n ∧ DR H dl L n ∧ DR H cm c n ∧ cm ≠ dr ∧ cm ≠ dl ∧ r < n ∧ (∀ x l, c x = some l → l < n) ∧ (∀ l x, R l = some x → x < n) ∧ Ma.Term c f (some r) R ∧
  ∀ H', Stay2 dr dl H H' → DR H' dr (Ma.change c f (some r) R L).1 n → DR H' dl (Ma.change c f (some r) R L).2 n → Q .non H'
theorem ok_change (T : Tx K mg) : O_Matching__change P w K mg base 1 (sp_change K) := by
  refine T.F_Matching__change.ok sc_Matching__change (fun vs H Q E h => ?_) (fun cdv A outer s H vs Q E hr h => ?_)
  · obtain ⟨m, p, dr, dl, cm, r, n, f, c, R, L, rfl, _⟩ := h
    rfl
  · obtain ⟨m, p, dr, dl, cm, r, n, f, c, R, L, rfl, ⟨⟨dx, hm⟩, ne⟩, hn, hR, hL, hc, ncr, ncl, hrn, hcn, hRn, ht, k⟩ := h
    refine ⟨_, PSs.nox ((pss_one (ps_while PassesOwn.never (pt_cmpR op_notN (pv 1) pe_non (nomark _)) (pss_cons (ps_set (i := 3) sc_Matching__change.nd rfl (Or.inl rfl) (pe_dget (hu_of hr) (pv 2) (pv 1) (fun _ _ => rfl))) (pss_cons (ps_set (i := 4) sc_Matching__change.nd rfl (Or.inl rfl) (pe_dget1 (hu_of hr) (show PE _ _ (tFld K _ _) from pe_fld (pv 0) rfl) (pv 3) ⟨rfl, rfl, rfl, rfl⟩)) (pss_cons (ps_dput (hu_of hr) (show PE _ _ (tFld K _ _) from pe_fld (pv 0) rfl) (pv 1) (pv 3) rfl) (pss_cons (ps_dput (hu_of hr) (show PE _ _ (tFld K _ _) from pe_fld (pv 0) rfl) (pv 3) (pv 1) rfl) (pss_one (ps_set (i := 1) sc_Matching__change.nd rfl (Or.inl rfl) (pv 4)))))))))), ?_⟩
    have mr : m ≠ dr := let ⟨_, h1, _⟩ := hR; ne_of hm h1 (fun z => by cases z)
    have ml : m ≠ dl := let ⟨_, h1, _⟩ := hL; ne_of hm h1 (fun z => by cases z)
    have f1 : (mf p dr dl).lookup ("_rights" : Str) = some (V.ref dr) := by kernel_rfl
    have f2 : (mf p dr dl).lookup ("_lefts" : Str) = some (V.ref dl) := by kernel_rfl
    walk_at "go"
    refine ⟨fun g σ H' => ∃ (o : Option Nat) (R' L' : Ma.Mp), Stay2 dr dl H H' ∧ DR H' dr R' n ∧ DR H' dl L' n ∧ Ma.Term c g o R' ∧ (∀ r, o = some r → r < n) ∧ (∀ l x, R' l = some x → x < n) ∧ Ma.change c g o R' L' = Ma.change c f (some r) R L ∧ ∃ v3 v4, σ = [some (.ref m), some (oV o), some (.ref cm), v3, v4],
      ⟨f, some r, R, L, stay2_rfl, hR, hL, ht, fun r' e => by rw [← Option.some.inj e]; exact hrn, hRn, rfl, _, _, rfl⟩, ?_⟩
    rintro g σ H1 ⟨o, R1, L1, s1, hR1, hL1, ht1, ho, hRn1, hch, v3, v4, rfl⟩
    walk_at "go"
    cases o with
    | none =>
      refine Sx.ndT rfl ?_
      have e : Ma.change c g none R1 L1 = (R1, L1) := by cases g <;> rfl
      rw [e] at hch
      refine k H1 s1 ?_ ?_
      · rw [← hch]; exact hR1
      · rw [← hch]; exact hL1
    | some r1 =>
      cases g with
      | zero => exact ht1.elim
      | succ g =>
        obtain ⟨l, el, ht2⟩ := ht1
        have hm1 := s1 _ _ mr ml hm
        have hln := hcn r1 l el
        have hr1 := ho r1 rfl
        have hc1 : DR H1 cm c n := by
          obtain ⟨kc, g1, g2⟩ := hc
          exact ⟨kc, s1 _ _ ncr ncl g1, g2⟩
        refine Sx.ndF (fun z => by cases z) ?_
        refine ⟨fun σ' H' => ∃ (o : Option Nat) (R' L' : Ma.Mp), Stay2 dr dl H H' ∧ DR H' dr R' n ∧ DR H' dl L' n ∧ Ma.Term c g o R' ∧ (∀ r, o = some r → r < n) ∧ (∀ l x, R' l = some x → x < n) ∧ Ma.change c g o R' L' = Ma.change c f (some r) R L ∧ ∃ v3 v4, σ' = [some (.ref m), some (oV o), some (.ref cm), v3, v4],
          fun σ' H' h => ⟨g, Nat.lt_succ_self _, h⟩, ?_⟩
        have eo : oV (some r1) = V.int (r1 : Nat) := rfl
        rw [eo]
        walk_at "go"
        refine ⟨cm, .int (l : Nat), rfl, by have := hc1.get r1; rw [el] at this; exact this, ?_⟩
        walk_at "go"
        refine dg1 ?_
        refine Sx.fld ?_
        walk_at "go"
        refine Sx.fldA hm1 T.c_Matching T.n_Matching__rights f1 ?_
        refine ⟨dr, rfl, hR1.isd, ?_⟩
        walk_at "go"
        refine ⟨_, hR1.get l, ?_⟩
        have eg : ((R1 l).map fun v => V.int (v : Nat)).getD .non = oV (R1 l) := by cases R1 l <;> rfl
        rw [eg]
        walk_at "go"
        refine Sx.fldA hm1 T.c_Matching T.n_Matching__lefts f2 ?_
        walk_at "go"
        obtain ⟨kl, l1, l2, l3⟩ := hL1.put (v := l) hr1
        refine Sx.dpI (x := (r1 : Nat)) l1 (by omega) ?_
        walk_at "go"
        have hm2 : (upd H1 dl (.dK (putK kl (Sum.inl (r1 : Int)) (.int (l : Nat))))) m = some (.ins (gC K "Matching") dx (mf p dr dl)) := by rw [upd_ne ml]; exact hm1
        have hR2 : DR (upd H1 dl (.dK (putK kl (Sum.inl (r1 : Int)) (.int (l : Nat))))) dr R1 n := hR1.same (upd_ne ne)
        refine Sx.fldA hm2 T.c_Matching T.n_Matching__rights f1 ?_
        walk_at "go"
        obtain ⟨kr, r2, r3, r4⟩ := hR2.put (v := r1) hln
        refine Sx.dpI (x := (l : Nat)) r2 (by omega) ?_
        walk_at "go"
        refine ⟨R1 l, Ma.up R1 l r1, Ma.up L1 r1 l, stay2_tr s1 (stay2_tr stay2_r stay2_l), r4, l3.same (upd_ne ne.symm), ht2, fun x e => hRn1 l x e, fun l' x e => ?_, ?_, _, _, rfl⟩
        · by_cases q : l' = l
          · rw [q, Ma.up_same] at e
            rw [← Option.some.inj e]
            exact hr1
          · rw [Ma.up_ne q] at e
            exact hRn1 l' x e
        · rw [← hch]
          show _ = (match c r1 with | Option.none => (R1, L1) | some l => Ma.change c g (R1 l) (Ma.up R1 l r1) (Ma.up L1 r1 l))
          rw [el]
end
end Wk

set_option Elab.async false
set_option linter.all false
set_option maxRecDepth 100000
set_option maxHeartbeats 2000000
namespace Wk
open PySem PySem.Spec PyProof.Rows L2 NdefX SuX Hk
local macro_rules | `(tactic| walk_at "st") => `(tactic| first
  | with_reducible refine Sx.ret ?_
  | with_reducible refine Sx.retN ?_
  | with_reducible refine Sx.seq ?_
  | with_reducible refine Sx.next ?_
  | with_reducible refine Sx.brk ?_
  | with_reducible refine Sx.cont ?_
  | with_reducible refine Sx.drop ?_
  | with_reducible refine Sx.asg ?_
  | with_reducible refine Sx.gname ?_
  | with_reducible refine Sx.ifS ?_
  | with_reducible refine Sx.var ?_
  | with_reducible refine Sx.con ?_
  | with_reducible refine Sx.op ?_
  | with_reducible refine Sx.un ?_
  | with_reducible refine Sx.cb ?_
  | with_reducible refine Sx.cons ?_
  | with_reducible refine Sx.nil ?_
  | with_reducible refine Sx.call ?_
  | with_reducible refine Sx.test ?_
  | with_reducible refine Sx.tb_ ?_
  | with_reducible refine Sx.bl ?_
  | with_reducible refine Sx.and_ ?_
  | with_reducible refine Sx.or_ ?_
  | with_reducible refine Sx.not_ ?_
  | with_reducible refine Sx.andV ?_
  | with_reducible refine Sx.orV ?_
  | with_reducible refine Sx.notV ?_
  | with_reducible refine Sx.ife ?_
  | with_reducible refine Sx.i0 ?_
  | with_reducible refine Sx.iU ?_
  | with_reducible refine Sx.eqI ?_
  | with_reducible refine Sx.eqS ?_
  | with_reducible refine Sx.neI ?_
  | with_reducible refine Sx.neS ?_
  | with_reducible refine Sx.isN' ?_
  | with_reducible refine Sx.chain ?_
  | with_reducible refine Sx.aug ?_
  | with_reducible refine Sx.ipI' ?_
  | with_reducible refine Sx.ifT ?_
  | with_reducible refine Sx.ifF ?_
  | with_reducible refine Sx.ifnF ?_
  | with_reducible refine Sx.ifnT ?_
  | with_reducible refine Sx.tup ?_
  | with_reducible refine Sx.lst ?_
  | with_reducible refine Sx.fld ?_
  | with_reducible refine Sx.sfld ?_
  | with_reducible refine Sx.meth ?_
  | with_reducible refine Sx.app ?_
  | with_reducible refine Sx.gcons ?_
  | with_reducible refine Sx.gnil ?_
  | with_reducible refine Sx.dget ?_
  | with_reducible refine Sx.din ?_
  | with_reducible refine Sx.dnin ?_
  | with_reducible refine Sx.dput ?_
  | with_reducible refine Sx.forS ?_
  | with_reducible refine Sx.ikeys ?_
  | with_reducible refine Sx.ienumT ?_
  | with_reducible refine Sx.scT ?_
  | with_reducible refine Sx.dc2 ?_
  | with_reducible refine Sx.tru ?_
  | with_reducible refine Sx.mv ?_
  | with_reducible refine Sx.cv ?_
  | with_reducible refine Sx.cw ?_
  | with_reducible refine Sx.join ?_
  | with_reducible refine Sx.lc ?_
  | with_reducible refine Sx.istr ?_
  | with_reducible refine Sx.ilist ?_
  | with_reducible refine Sx.itup ?_
  | with_reducible refine Sx.irng1 ?_
  | with_reducible refine Sx.irng2 ?_
  | with_reducible refine Sx.ienum ?_
  | with_reducible refine Sx.izip ?_
  | with_reducible refine Sx.irev ?_
  | with_reducible refine Sx.iitems ?_
  | with_reducible refine Sx.yes ?_
  | with_reducible refine Sx.js_cons ?_
  | with_reducible refine Sx.js_nil ?_
  | with_reducible refine Sx.fmt ?_
  | with_reducible refine Sx.isi_int ?_
  | with_reducible refine Sx.isi_intb ?_
  | with_reducible refine Sx.isi_str ?_)
local macro_rules | `(tactic| walk_at "go") => `(tactic| repeat walk_at "st")
local macro_rules | `(tactic| walk_at "is") => `(tactic| simp only [Option.isSome_some, Option.isSome_none, Bool.not_true, Bool.not_false])
/-! Matching._match, __init__, size. -/
section
variable {P : Program} {w : World} {K : PySem.W.Frag} {mg : Str → Option Value} {base : Heap}
/-- the lines as a function -/
def gOf (Gl : List (List Nat)) : Nat → List Nat := fun l => Gl.getD l []
theorem gOf_lt {Gl : List (List Nat)} {l : Nat} {g : List Nat} (h : Gl[l]? = some g) : gOf Gl l = g := by
  unfold gOf
  rw [List.getD_eq_getElem?_getD, h]
  rfl
theorem BI_qlt {G : Nat → List Nat} {n s : Nat} {R L c : Ma.Mp} {q ks : List Nat} (B : Ma.BI G n L s c q ks) (S : Ma.Stt G s R L) (hs : s < n) {a l : Nat} (h : q[a]? = some l) : l < n := by
  rw [B.q0] at h
  cases a with
  | zero =>
    obtain rfl : s = l := Option.some.inj h
    exact hs
  | succ a =>
    rw [List.getElem?_cons_succ, List.getElem?_map] at h
    obtain ⟨r, hr, e⟩ := Option.map_eq_some_iff.mp h
    obtain ⟨l', hl⟩ := B.kl r (List.mem_of_getElem? hr)
    rw [hl] at e
    have e : l' = l := e
    rw [← e]
    have := S.dom l' r ((S.mi.inv l' r).2 hl)
    omega
def sp_match (K : PySem.W.Frag) : Sp := fun vs H Q _ => ∃ (m p dr dl : Addr) (s : Nat) (Gl : List (List Nat)) (R L : Ma.Mp), vs = [.ref m, .int (s : Nat)] ∧ MatO K H m p dr dl ∧ LinesAt H p Gl ∧ Gl.length ≤ 60 ∧ (∀ l, ∀ r ∈ gOf Gl l, r < Gl.length) ∧ s < Gl.length ∧ DR H dr R Gl.length ∧ DR H dl L Gl.length ∧ Ma.Stt (gOf Gl) s R L ∧
  ∀ H', Stay2 dr dl H H' → DR H' dr (Ma.mOne (gOf Gl) Gl.length (R, L) s).1 Gl.length → DR H' dl (Ma.mOne (gOf Gl) Gl.length (R, L) s).2 Gl.length → Q .non H'
theorem ok_match (T : Tx K mg) : O_Matching__match P w K mg base 2 (sp_match K) := by
  have G_Matching__change : O_Matching__change P w K mg base 1 (sp_change K) := ok_change T
  refine T.F_Matching__match.ok sc_Matching__match (fun vs H Q E h => ?_) (fun cdv A outer s H vs Q E hr h => ?_)
  · obtain ⟨m, p, dr, dl, s, Gl, R, L, rfl, _⟩ := h
    rfl
  · obtain ⟨m, p, dr, dl, s0, Gl, R, L, rfl, ⟨⟨dx, hm⟩, ne⟩, ⟨ls, hp, hls, hlg⟩, hn, hG, hs, hR, hL, S, k⟩ := h
    have hRs : R s0 = none := by
      cases e : R s0 with
      | none => rfl
      | some x => exact absurd (S.dom s0 x e) (by omega)
    refine ⟨_, PSs.nox ((pss_cons (ps_set (i := 2) sc_Matching__match.nd rfl (Or.inl rfl) (pe_dnewK)) (pss_cons (ps_set (i := 3) sc_Matching__match.nd rfl (Or.inl rfl) (pe_lst (pa_cons (pv 1) pa_nil))) (pss_cons (ps_set (i := 4) sc_Matching__match.nd rfl (Or.inl rfl) (pe_int)) (pss_one (ps_while PassesOwn.never (pt_cmpR op_lt (pv 4) (pe_callB (Kw.len K) (by rfl) T.f_len (by decide +kernel) (pa_cons (pv 3) pa_nil)) (nomark _)) (pss_cons (ps_set (i := 5) sc_Matching__match.nd rfl (Or.inl rfl) (pe_ix (Kw.ixL K) (pv 3) (pv 4) (fun _ _ => rfl))) (pss_cons (ps_aug (i := 4) sc_Matching__match.nd rfl (Or.inl rfl) (pe_int) ip_add) (pss_one (ps_for PassesOwn.never rfl (show PI _ _ _ (iList K _) from pi_list (pe_ix (Kw.ixL K) (show PE _ _ (tFld K _ _) from pe_fld (pv 0) rfl) (pv 5) (fun _ _ => rfl))) (pg_name (i := 6) sc_Matching__match.nd rfl (Or.inl rfl)) (pss_cons (ps_if (pt_cmp (pc_din (hu_of hr) (pv 6) (pv 2))) (pss_one (ps_continue)) pss_nil) (pss_cons (ps_dput (hu_of hr) (pv 2) (pv 6) (pv 5) rfl) (pss_cons (ps_if (pt_cmp (pc_dnotin (hu_of hr) (pv 6) (show PE _ _ (tFld K _ _) from pe_fld (pv 0) rfl))) (pss_cons (ps_expr (pe_meth (pv 0) T.c_Matching T.m_Matching__change G_Matching__change (hr.mono (by decide)) T.b_Matching__change .nil pass0 (pa_cons (pv 6) (pa_cons (pv 2) pa_nil)))) (pss_one (ps_retN))) pss_nil) (pss_one (ps_expr (show PE _ _ (tBM K _ _ _ _) from pe_bm PySem.F.plainAttrs_list PySem.F.slot_list_append PySem.F.type_list_append mt_append (pv 3) (pa_cons (pe_dget (hu_of hr) (show PE _ _ (tFld K _ _) from pe_fld (pv 0) rfl) (pv 6) (fun _ _ => rfl)) pa_nil))))))))))))))))), ?_⟩
    have f0 : (mf p dr dl).lookup ("_lines" : Str) = some (V.ref p) := by kernel_rfl
    have f2 : (mf p dr dl).lookup ("_lefts" : Str) = some (V.ref dl) := by kernel_rfl
    walk_at "go"
    intro cm ncm
    walk_at "go"
    have s1 : Same H (upd H cm (.dK [])) := Sx.same_new (Sx.same_rfl H) ncm
    have hc1 : DR (upd H cm (.dK [])) cm (fun _ => none) Gl.length := DR.empty upd_same
    generalize upd H cm (.dK []) = H1 at s1 hc1
    refine Sx.nw (by show 1 ≤ _; decide) fun qp nqp => ?_
    have nqc : cm ≠ qp := let ⟨_, z, _⟩ := hc1; ne_of_none z nqp
    have s2 : Same H1 (upd H1 qp (.lst [V.int (s0 : Nat)])) := Sx.same_new (Sx.same_rfl H1) nqp
    have hq2 : (upd H1 qp (.lst [V.int (s0 : Nat)])) qp = some (.lst (RpX.vn [s0])) := upd_same
    have hc2 : DR (upd H1 qp (.lst [V.int (s0 : Nat)])) cm (fun _ => none) Gl.length := hc1.same (upd_ne nqc)
    have s02 := Same.trans s1 s2
    have nq0 : H qp = none := Sx.new_none s1 nqp
    generalize upd H1 qp (.lst [V.int (s0 : Nat)]) = H2 at hq2 hc2 s02
    walk_at "go"
    refine ⟨fun f σ H' => ∃ (a : Nat) (c : Ma.Mp) (q ks : List Nat), Same H H' ∧ DR H' cm c Gl.length ∧ H' qp = some (.lst (RpX.vn q)) ∧ Ma.BI (gOf Gl) Gl.length L s0 c q ks ∧ Ma.Done (gOf Gl) q ks a ∧ a ≤ q.length ∧ f + a = Gl.length + 2 ∧ Ma.bfs (gOf Gl) (Gl.length + 2) R L f a c q = Ma.mOne (gOf Gl) Gl.length (R, L) s0 ∧
      ∃ v5 v6, σ = [some (.ref m), some (.int (s0 : Nat)), some (.ref cm), some (.ref qp), some (.int (a : Nat)), v5, v6],
      ⟨Gl.length + 2, 0, _, [s0], [], s02, hc2, hq2, Ma.BI.start, fun j l hj => absurd hj (Nat.not_lt_zero _), Nat.zero_le _, rfl, rfl, _, _, rfl⟩, ?_⟩
    rintro f σ H3 ⟨a, c, q, ks, s3, hc3, hq3, B, D, ha, hf, hb, v5, v6, rfl⟩
    walk_at "go"
    refine Sx.lenL (SqL.of hq3) ?_
    walk_at "go"
    have hql : (RpX.vn q).length = q.length := List.length_map _
    refine Sx.ifd (fun lt => ?_) (fun ge => ?_)
    · rw [hql] at lt
      have hlt : a < q.length := by omega
      have hqa : q[a]? = some q[a] := List.getElem?_eq_getElem hlt
      generalize q[a] = l at hqa
      have hln := BI_qlt B S hs hqa
      have hqk := B.qlen
      have hkl := B.klen
      obtain ⟨f, rfl⟩ : ∃ f', f = f' + 1 := ⟨f - 1, by omega⟩
      refine ⟨fun σ' H' => ∃ (a : Nat) (c : Ma.Mp) (q ks : List Nat), Same H H' ∧ DR H' cm c Gl.length ∧ H' qp = some (.lst (RpX.vn q)) ∧ Ma.BI (gOf Gl) Gl.length L s0 c q ks ∧ Ma.Done (gOf Gl) q ks a ∧ a ≤ q.length ∧ f + a = Gl.length + 2 ∧ Ma.bfs (gOf Gl) (Gl.length + 2) R L f a c q = Ma.mOne (gOf Gl) Gl.length (R, L) s0 ∧
        ∃ v5 v6, σ' = [some (.ref m), some (.int (s0 : Nat)), some (.ref cm), some (.ref qp), some (.int (a : Nat)), v5, v6], fun σ' H' h => ⟨f, Nat.lt_succ_self _, h⟩, ?_⟩
      walk_at "go"
      refine Sx.ixL (SqL.of hq3) (v := .int (l : Nat)) (atI_nat (j := a) (by rw [List.getElem?_map, hqa]; rfl)) ?_
      walk_at "go"
      obtain ⟨ll, hll⟩ : ∃ ll, ls[l]? = some ll := ⟨_, List.getElem?_eq_getElem (by rw [hls]; exact hln)⟩
      obtain ⟨g, hg⟩ : ∃ g, Gl[l]? = some g := ⟨_, List.getElem?_eq_getElem hln⟩
      have hgl := hlg l ll g hll hg
      have eg := gOf_lt hg
      refine Sx.fldA (s3 _ _ hm) T.c_Matching T.n_Matching__lines f0 ?_
      walk_at "go"
      refine Sx.ixL (SqL.of (s3 _ _ hp)) (v := .ref ll) (atI_nat (j := l) (by rw [List.getElem?_map, hll]; rfl)) ?_
      have hvg : (RpX.vn g).length = g.length := List.length_map _
      refine ⟨ll, rfl, ⟨_, SqL.of (s3 _ _ hgl)⟩, VrX.for_J (n := g.length) (fun j σ H' => (∃ (c1 : Ma.Mp) (q1 ks1 : List Nat), Same H H' ∧ DR H' cm c1 Gl.length ∧ H' qp = some (.lst (RpX.vn q1)) ∧ Ma.BI (gOf Gl) Gl.length L s0 c1 q1 ks1 ∧ Ma.Done (gOf Gl) q1 ks1 a ∧ q1[a]? = some l ∧
          Ma.scan L l (g.drop j) c1 q1 = Ma.scan L l g c q ∧ ∀ r ∈ g.take j, r ∈ ks1) ∧ ∃ v6, σ = [some (.ref m), some (.int (s0 : Nat)), some (.ref cm), some (.ref qp), some (.int ((a + 1 : Nat) : Int)), some (.int (l : Nat)), v6])
        ⟨⟨c, q, ks, s3, hc3, hq3, B, D, hqa, rfl, fun r hr => (by cases hr)⟩, _, rfl⟩
        (fun σ H' h => let ⟨⟨_, _, _, z, _⟩, _⟩ := h; ⟨_, SqL.of (z _ _ hgl), by rw [hvg]; exact Nat.le_refl _⟩) (fun j σ H' hj h => let ⟨⟨_, _, _, z, _⟩, _⟩ := h; ⟨_, _, SqL.of (z _ _ hgl), List.getElem?_eq_getElem (by rw [hvg]; exact hj)⟩) ?_ ?_⟩
      · rintro j y σ H4 H5 hj ⟨⟨c1, q1, ks1, s4, hc4, hq4, B1, D1, hqa1, hsc, hks⟩, v6, rfl⟩ ⟨rfl, hy⟩
        have hr : g[j]? = some g[j] := List.getElem?_eq_getElem hj
        have hdr : g.drop j = g[j] :: g.drop (j + 1) := List.drop_eq_getElem_cons hj
        generalize g[j] = r at hr hdr
        have hy2 := hy _ (SqL.of (s4 _ _ hgl))
        rw [List.getElem?_map, hr] at hy2
        obtain rfl : V.int (r : Nat) = y := Option.some.inj hy2
        have hrg : r ∈ gOf Gl l := by rw [eg]; exact List.mem_of_getElem? hr
        have hrn := hG l r hrg
        rw [hdr] at hsc
        have tk : g.take (j + 1) = g.take j ++ [r] := by rw [List.take_succ, hr]; rfl
        walk_at "go"
        refine ⟨cm, _, rfl, hc4.get r, ?_⟩
        walk_at "go"
        cases hcr : c1 r with
        | some z =>
          refine Sx.bT rfl ?_
          walk_at "go"
          refine ⟨⟨c1, q1, ks1, s4, hc4, hq4, B1, D1, hqa1, ?_, fun x hx => ?_⟩, _, rfl⟩
          · rw [← hsc]
            show _ = (match c1 r with | some _ => Ma.scan L l (g.drop (j + 1)) c1 q1 | none => _)
            rw [hcr]
          · rw [tk] at hx
            rcases List.mem_append.mp hx with z1 | z1
            · exact hks x z1
            · rw [List.mem_singleton.mp z1]
              exact (B1.kc r).1 ⟨z, hcr⟩
        | none =>
          refine Sx.bF rfl ?_
          walk_at "go"
          obtain ⟨kc, k1, k2, k3⟩ := hc4.put (v := l) hrn
          refine Sx.dpI (x := (r : Nat)) k1 (by omega) ?_
          have ncq : qp ≠ cm := nqc.symm
          have s5 : Same H (upd H5 cm (.dK (putK kc (Sum.inl (r : Int)) (.int (l : Nat))))) := Sx.same_new s4 ncm
          have hq5 : (upd H5 cm (.dK (putK kc (Sum.inl (r : Int)) (.int (l : Nat))))) qp = some (.lst (RpX.vn q1)) := by rw [upd_ne ncq]; exact hq4
          generalize upd H5 cm (.dK (putK kc (Sum.inl (r : Int)) (.int (l : Nat)))) = H6 at s5 hq5 k3
          walk_at "go"
          refine Sx.fldA (s5 _ _ hm) T.c_Matching T.n_Matching__lefts f2 ?_
          have keep : ∀ {d : Addr} {M : Ma.Mp}, DR H d M Gl.length → DR H6 d M Gl.length := fun {d M} ⟨kvs, z1, z2⟩ => ⟨kvs, s5 _ _ z1, z2⟩
          refine ⟨dl, _, rfl, (keep hL).get r, ?_⟩
          walk_at "go"
          cases hlr : L r with
          | none =>
            refine Sx.bT rfl ?_
            walk_at "go"
            have hit := B1.hit S.mi hRs hqa1 hrg hrn hcr hlr
            refine Sx.methA (s5 _ _ hm) (by kernel_rfl) ?_
            walk_at "go"
            have cr : cm ≠ dr := let ⟨_, z, _⟩ := hR; (ne_of_none z ncm).symm
            have cl : cm ≠ dl := let ⟨_, z, _⟩ := hL; (ne_of_none z ncm).symm
            have em : Ma.mOne (gOf Gl) Gl.length (R, L) s0 = Ma.change (Ma.up c1 r l) (Gl.length + 2) (some r) R L := by
              rw [← hb]
              show (match q[a]? with | Option.none => (R, L) | some l => match Ma.scan L l (gOf Gl l) c q with | .go c' q' => _ | .hit r c' => Ma.change c' (Gl.length + 2) (some r) R L) = _
              rw [hqa]
              show (match Ma.scan L l (gOf Gl l) c q with | .go c' q' => _ | .hit r c' => Ma.change c' (Gl.length + 2) (some r) R L) = _
              rw [eg, ← hsc]
              have : Ma.scan L l (r :: g.drop (j + 1)) c1 q1 = .hit r (Ma.up c1 r l) := by
                show (match c1 r with | some _ => _ | none => match L r with | none => Ma.Sc.hit r (Ma.up c1 r l) | some p => _) = _
                rw [hcr, hlr]
              rw [this]
            refine ⟨m, p, dr, dl, cm, r, Gl.length, Gl.length + 2, Ma.up c1 r l, R, L, rfl, ⟨⟨dx, s5 _ _ hm⟩, ne⟩, by omega, keep hR, keep hL, k3, cr, cl, hrn, fun x l' e => ?_, fun l' x e => hG l' x (S.mi.edge l' x e), hit.term, fun H7 s7 hR7 hL7 => ?_⟩
            · rcases (hit.C x l' e).2 with z | ⟨y, z⟩
              · rw [z]; exact hs
              · have := S.dom l' y z
                omega
            · walk_at "go"
              refine k H7 (stay2_tr (stay2_same s5) s7) ?_ ?_
              · rw [em]; exact hR7
              · rw [em]; exact hL7
          | some p0 =>
            refine Sx.bF rfl ?_
            walk_at "go"
            have B2 := B1.more hqa1 hrg hrn hcr hlr
            have hl1 := B1.qlen
            have hl2 := B1.klen
            refine Sx.appA hq5 ?_
            walk_at "go"
            refine Sx.fldA (s5 _ _ hm) T.c_Matching T.n_Matching__lefts f2 ?_
            walk_at "go"
            refine ⟨dl, .int (p0 : Nat), rfl, by have := (keep hL).get r; rw [hlr] at this; exact this, ?_⟩
            walk_at "go"
            refine Sx.appB hq5 (by rw [List.length_map]; omega) ?_
            have a1 : a < q1.length := (List.getElem?_eq_some_iff.mp hqa1).1
            refine ⟨⟨Ma.up c1 r l, q1 ++ [p0], ks1 ++ [r], Sx.same_new s5 nq0, k3.same (upd_ne nqc), ?_, B2, D1.more (by omega), by rw [List.getElem?_append_left a1]; exact hqa1, ?_, fun x hx => ?_⟩, _, rfl⟩
            · rw [upd_same, vn_app]
              rfl
            · rw [← hsc]
              show _ = (match c1 r with | some _ => _ | none => match L r with | none => Ma.Sc.hit r (Ma.up c1 r l) | some p => Ma.scan L l (g.drop (j + 1)) (Ma.up c1 r l) (q1 ++ [p]))
              rw [hcr, hlr]
            · rw [tk] at hx
              rcases List.mem_append.mp hx with z1 | z1
              · exact List.mem_append_left _ (hks x z1)
              · rw [List.mem_singleton.mp z1]
                exact List.mem_append_right _ (List.mem_singleton.mpr rfl)
      · rintro σ H4 ⟨⟨c1, q1, ks1, s4, hc4, hq4, B1, D1, hqa1, hsc, hks⟩, v6, rfl⟩
        rw [List.take_length] at hks
        rw [List.drop_length] at hsc
        have a1 : a < q1.length := (List.getElem?_eq_some_iff.mp hqa1).1
        refine ⟨a + 1, c1, q1, ks1, s4, hc4, hq4, B1, fun j l' hj e r hr => ?_, a1, by omega, ?_, _, _, rfl⟩
        · by_cases z : j = a
          · rw [z, hqa1] at e
            obtain rfl := Option.some.inj e
            rw [eg] at hr
            exact hks r hr
          · exact D1 j l' (by omega) e r hr
        · rw [← hb]
          show _ = (match q[a]? with | Option.none => (R, L) | some l => match Ma.scan L l (gOf Gl l) c q with | .go c' q' => Ma.bfs (gOf Gl) (Gl.length + 2) R L f (a + 1) c' q' | .hit r c' => _)
          rw [hqa]
          show _ = (match Ma.scan L l (gOf Gl l) c q with | .go c' q' => Ma.bfs (gOf Gl) (Gl.length + 2) R L f (a + 1) c' q' | .hit r c' => _)
          rw [eg, ← hsc]
          rfl
    · rw [hql] at ge
      have hqn : q[a]? = none := List.getElem?_eq_none (by omega)
      have e : Ma.mOne (gOf Gl) Gl.length (R, L) s0 = (R, L) := by
        rw [← hb]
        cases f with
        | zero => rfl
        | succ f =>
          show (match q[a]? with | Option.none => (R, L) | some l => _) = _
          rw [hqn]
      have keep : ∀ {d : Addr} {M : Ma.Mp}, DR H d M Gl.length → DR H3 d M Gl.length := fun {d M} ⟨kvs, z1, z2⟩ => ⟨kvs, s3 _ _ z1, z2⟩
      refine k H3 (stay2_same s3) ?_ ?_
      · rw [e]; exact keep hR
      · rw [e]; exact keep hL
end
end Wk

set_option Elab.async false
set_option linter.all false
set_option maxRecDepth 100000
set_option maxHeartbeats 2000000
namespace Wk
open PySem PySem.Spec PyProof.Rows L2 NdefX SuX Hk
local macro_rules | `(tactic| walk_at "st") => `(tactic| first
  | with_reducible refine Sx.ret ?_
  | with_reducible refine Sx.retN ?_
  | with_reducible refine Sx.seq ?_
  | with_reducible refine Sx.next ?_
  | with_reducible refine Sx.brk ?_
  | with_reducible refine Sx.cont ?_
  | with_reducible refine Sx.drop ?_
  | with_reducible refine Sx.asg ?_
  | with_reducible refine Sx.gname ?_
  | with_reducible refine Sx.ifS ?_
  | with_reducible refine Sx.var ?_
  | with_reducible refine Sx.con ?_
  | with_reducible refine Sx.op ?_
  | with_reducible refine Sx.un ?_
  | with_reducible refine Sx.cb ?_
  | with_reducible refine Sx.cons ?_
  | with_reducible refine Sx.nil ?_
  | with_reducible refine Sx.call ?_
  | with_reducible refine Sx.test ?_
  | with_reducible refine Sx.tb_ ?_
  | with_reducible refine Sx.bl ?_
  | with_reducible refine Sx.and_ ?_
  | with_reducible refine Sx.or_ ?_
  | with_reducible refine Sx.not_ ?_
  | with_reducible refine Sx.andV ?_
  | with_reducible refine Sx.orV ?_
  | with_reducible refine Sx.notV ?_
  | with_reducible refine Sx.ife ?_
  | with_reducible refine Sx.i0 ?_
  | with_reducible refine Sx.iU ?_
  | with_reducible refine Sx.eqI ?_
  | with_reducible refine Sx.eqS ?_
  | with_reducible refine Sx.neI ?_
  | with_reducible refine Sx.neS ?_
  | with_reducible refine Sx.isN' ?_
  | with_reducible refine Sx.chain ?_
  | with_reducible refine Sx.aug ?_
  | with_reducible refine Sx.ipI' ?_
  | with_reducible refine Sx.ifT ?_
  | with_reducible refine Sx.ifF ?_
  | with_reducible refine Sx.ifnF ?_
  | with_reducible refine Sx.ifnT ?_
  | with_reducible refine Sx.tup ?_
  | with_reducible refine Sx.lst ?_
  | with_reducible refine Sx.fld ?_
  | with_reducible refine Sx.sfld ?_
  | with_reducible refine Sx.meth ?_
  | with_reducible refine Sx.app ?_
  | with_reducible refine Sx.gcons ?_
  | with_reducible refine Sx.gnil ?_
  | with_reducible refine Sx.dget ?_
  | with_reducible refine Sx.din ?_
  | with_reducible refine Sx.dnin ?_
  | with_reducible refine Sx.dput ?_
  | with_reducible refine Sx.forS ?_
  | with_reducible refine Sx.ikeys ?_
  | with_reducible refine Sx.ienumT ?_
  | with_reducible refine Sx.scT ?_
  | with_reducible refine Sx.dc2 ?_
  | with_reducible refine Sx.tru ?_
  | with_reducible refine Sx.mv ?_
  | with_reducible refine Sx.cv ?_
  | with_reducible refine Sx.cw ?_
  | with_reducible refine Sx.join ?_
  | with_reducible refine Sx.lc ?_
  | with_reducible refine Sx.istr ?_
  | with_reducible refine Sx.ilist ?_
  | with_reducible refine Sx.itup ?_
  | with_reducible refine Sx.irng1 ?_
  | with_reducible refine Sx.irng2 ?_
  | with_reducible refine Sx.ienum ?_
  | with_reducible refine Sx.izip ?_
  | with_reducible refine Sx.irev ?_
  | with_reducible refine Sx.iitems ?_
  | with_reducible refine Sx.yes ?_
  | with_reducible refine Sx.js_cons ?_
  | with_reducible refine Sx.js_nil ?_
  | with_reducible refine Sx.fmt ?_
  | with_reducible refine Sx.isi_int ?_
  | with_reducible refine Sx.isi_intb ?_
  | with_reducible refine Sx.isi_str ?_)
local macro_rules | `(tactic| walk_at "go") => `(tactic| repeat walk_at "st")
local macro_rules | `(tactic| walk_at "is") => `(tactic| simp only [Option.isSome_some, Option.isSome_none, Bool.not_true, Bool.not_false])
/-! Matching.__init__, size, chains. -/
section
variable {P : Program} {w : World} {K : PySem.W.Frag} {mg : Str → Option Value} {base : Heap}
theorem LinesAt.lst {H H' : Hp} {p : Addr} {G : List (List Nat)} (k : ∀ x xs, H x = some (.lst xs) → H' x = some (.lst xs)) (h : LinesAt H p G) : LinesAt H' p G := by
  obtain ⟨ls, h1, h2, h3⟩ := h
  exact ⟨ls, k _ _ h1, h2, fun i l g e1 e2 => k _ _ (h3 i l g e1 e2)⟩
def sp_Mat_init (K : PySem.W.Frag) : Sp := fun vs H Q _ => ∃ (m p dx : Addr) (Gl : List (List Nat)), vs = [.ref m, .ref p] ∧ H m = some (.ins (gC K "Matching") dx []) ∧ LinesAt H p Gl ∧ Gl.length ≤ 60 ∧ (∀ l, ∀ r ∈ gOf Gl l, r < Gl.length) ∧
  ∀ (H' : Hp) (dr dl : Addr), Stay m H H' → MatO K H' m p dr dl → LinesAt H' p Gl → DR H' dr (Ma.mUp (gOf Gl) Gl.length Gl.length).1 Gl.length → DR H' dl (Ma.mUp (gOf Gl) Gl.length Gl.length).2 Gl.length → Q .non H'
theorem ok_Mat_init (T : Tx K mg) : O_Matching___init__ P w K mg base 3 (sp_Mat_init K) := by
  have G_Matching__match : O_Matching__match P w K mg base 2 (sp_match K) := ok_match T
  refine T.F_Matching___init__.ok sc_Matching___init__ (fun vs H Q E h => ?_) (fun cdv A outer s H vs Q E hr h => ?_)
  · obtain ⟨m, p, dx, Gl, rfl, _⟩ := h
    rfl
  · obtain ⟨m, p, dx, Gl, rfl, hm, hp, hn, hG, k⟩ := h
    refine ⟨_, PSs.nox ((pss_cons (show PS _ _ (sFld K _ _ _) from ps_fld (pv 0) (pv 1) rfl) (pss_cons (show PS _ _ (sFld K _ _ _) from ps_fld (pv 0) (pe_dnewK) rfl) (pss_cons (show PS _ _ (sFld K _ _ _) from ps_fld (pv 0) (pe_dnewK) rfl) (pss_one (ps_for PassesOwn.never rfl (pi_range1 (by rfl) T.f_range (pa_cons (pe_callB (Kw.len K) (by rfl) T.f_len (by decide +kernel) (pa_cons (pv 1) pa_nil)) pa_nil)) (pg_name (i := 2) sc_Matching___init__.nd rfl (Or.inl rfl)) (pss_one (ps_expr (pe_meth (pv 0) T.c_Matching T.m_Matching__match G_Matching__match (hr.mono (by decide)) T.b_Matching__match .nil pass0 (pa_cons (pv 2) pa_nil)))))))))), ?_⟩
    walk_at "go"
    refine ⟨m, gC K "Matching", dx, [], rfl, hm, T.c_Matching, T.n_Matching__lines, (by decide), ?_⟩
    walk_at "go"
    have m1 : (upd H m (.ins (gC K "Matching") dx (putF "_lines" (V.ref p) []))) m = some (.ins (gC K "Matching") dx (putF "_lines" (V.ref p) [])) := upd_same
    have st1 : Stay m H (upd H m (.ins (gC K "Matching") dx (putF "_lines" (V.ref p) []))) := stay_upd
    generalize upd H m (.ins (gC K "Matching") dx (putF "_lines" (V.ref p) [])) = H1 at m1 st1
    intro dr ndr
    walk_at "go"
    have mdr : m ≠ dr := ne_of_none m1 ndr
    refine ⟨m, gC K "Matching", dx, _, rfl, by rw [upd_ne mdr]; exact m1, T.c_Matching, T.n_Matching__rights, (by show 1 < 1000; decide), ?_⟩
    walk_at "go"
    have m2 : (upd (upd H1 dr (.dK [])) m (.ins (gC K "Matching") dx (putF "_rights" (V.ref dr) (putF "_lines" (V.ref p) [])))) m = some (.ins (gC K "Matching") dx (putF "_rights" (V.ref dr) (putF "_lines" (V.ref p) []))) := upd_same
    have st2 : Stay m H (upd (upd H1 dr (.dK [])) m (.ins (gC K "Matching") dx (putF "_rights" (V.ref dr) (putF "_lines" (V.ref p) [])))) := stay_tr st1 (stay_tr (stay_same (Sx.same_new (Sx.same_rfl _) ndr)) stay_upd)
    have hdr2 : (upd (upd H1 dr (.dK [])) m (.ins (gC K "Matching") dx (putF "_rights" (V.ref dr) (putF "_lines" (V.ref p) [])))) dr = some (.dK []) := by rw [upd_ne mdr.symm, upd_same]
    have ndr0 : H dr = none := by
      cases e : H dr with
      | none => rfl
      | some o =>
        have := st1 _ _ mdr.symm e
        rw [ndr] at this
        cases this
    generalize upd (upd H1 dr (.dK [])) m (.ins (gC K "Matching") dx (putF "_rights" (V.ref dr) (putF "_lines" (V.ref p) []))) = H2 at m2 st2 hdr2
    intro dl ndl
    walk_at "go"
    have mdl : m ≠ dl := ne_of_none m2 ndl
    have drl : dr ≠ dl := ne_of_none hdr2 ndl
    refine ⟨m, gC K "Matching", dx, _, rfl, by rw [upd_ne mdl]; exact m2, T.c_Matching, T.n_Matching__lefts, (by show 2 < 1000; decide), ?_⟩
    walk_at "go"
    have m3 : (upd (upd H2 dl (.dK [])) m (.ins (gC K "Matching") dx (putF "_lefts" (V.ref dl) (putF "_rights" (V.ref dr) (putF "_lines" (V.ref p) []))))) m = some (.ins (gC K "Matching") dx (mf p dr dl)) := upd_same
    have st3 : Stay m H (upd (upd H2 dl (.dK [])) m (.ins (gC K "Matching") dx (putF "_lefts" (V.ref dl) (putF "_rights" (V.ref dr) (putF "_lines" (V.ref p) []))))) := stay_tr st2 (stay_tr (stay_same (Sx.same_new (Sx.same_rfl _) ndl)) stay_upd)
    have hdr3 : (upd (upd H2 dl (.dK [])) m (.ins (gC K "Matching") dx (putF "_lefts" (V.ref dl) (putF "_rights" (V.ref dr) (putF "_lines" (V.ref p) []))))) dr = some (.dK []) := by rw [upd_ne mdr.symm, upd_ne drl]; exact hdr2
    have hdl3 : (upd (upd H2 dl (.dK [])) m (.ins (gC K "Matching") dx (putF "_lefts" (V.ref dl) (putF "_rights" (V.ref dr) (putF "_lines" (V.ref p) []))))) dl = some (.dK []) := by rw [upd_ne mdl.symm, upd_same]
    have ndl0 : H dl = none := by
      cases e : H dl with
      | none => rfl
      | some o =>
        have := st2 _ _ mdl.symm e
        rw [ndl] at this
        cases this
    generalize upd (upd H2 dl (.dK [])) m (.ins (gC K "Matching") dx (putF "_lefts" (V.ref dl) (putF "_rights" (V.ref dr) (putF "_lines" (V.ref p) [])))) = H3 at m3 st3 hdr3 hdl3
    have hp3 : LinesAt H3 p Gl := hp.lst fun x xs e => st3 _ _ (ne_of e hm (fun z => by cases z)) e
    have lenG : ∃ ls : List Addr, H3 p = some (.lst (ls.map V.ref)) ∧ ls.length = Gl.length := let ⟨ls, z1, z2, _⟩ := hp3; ⟨ls, z1, z2⟩
    obtain ⟨ls, hpl, hll⟩ := lenG
    refine Sx.lenL (SqL.of hpl) ?_
    have ell : (((ls.map V.ref).length : Nat) : Int) = (Gl.length : Int) := by rw [List.length_map, hll]
    rw [ell]
    walk_at "go"
    refine ⟨(Gl.length : Int), rfl, by omega, by omega, VrX.for_J (n := Gl.length) (fun i σ H' => (Stay2 dr dl H3 H' ∧ DR H' dr (Ma.mUp (gOf Gl) Gl.length i).1 Gl.length ∧ DR H' dl (Ma.mUp (gOf Gl) Gl.length i).2 Gl.length) ∧ ∃ v2, σ = [some (.ref m), some (.ref p), v2])
      ⟨⟨stay2_rfl, DR.empty hdr3, DR.empty hdl3⟩, _, rfl⟩ (fun _ _ _ => by show (Gl.length : Int).toNat ≤ _; omega) (fun i _ _ hi _ => by show i < (Gl.length : Int).toNat; omega) ?_ ?_⟩
    · rintro i y σ H4 H5 hi ⟨⟨s4, hR, hL⟩, v2, rfl⟩ ⟨rfl, rfl⟩
      rw [Int.zero_add]
      have hm4 := s4 _ _ mdr mdl m3
      have hp4 : LinesAt H5 p Gl := hp3.lst fun x xs e => s4 _ _ (ne_of e hdr3 (fun z => by cases z)) (ne_of e hdl3 (fun z => by cases z)) e
      walk_at "go"
      refine Sx.methA hm4 (by kernel_rfl) ?_
      walk_at "go"
      refine ⟨m, p, dr, dl, i, Gl, _, _, rfl, ⟨⟨dx, hm4⟩, drl⟩, hp4, hn, hG, hi, hR, hL, Ma.mUp_ok hG i, fun H6 s6 r6 l6 => ?_⟩
      exact ⟨⟨stay2_tr s4 s6, r6, l6⟩, _, rfl⟩
    · rintro σ H4 ⟨⟨s4, hR, hL⟩, v2, rfl⟩
      refine k H4 dr dl (fun x o hx e => s4 _ _ (fun z => by rw [z, ndr0] at e; cases e) (fun z => by rw [z, ndl0] at e; cases e) (st3 _ _ hx e)) ⟨⟨dx, s4 _ _ mdr mdl m3⟩, drl⟩ (hp3.lst fun x xs e => s4 _ _ (ne_of e hdr3 (fun z => by cases z)) (ne_of e hdl3 (fun z => by cases z)) e) hR hL
def sp_size (K : PySem.W.Frag) : Sp := fun vs H Q _ => ∃ (m p dr dl : Addr) (R : Ma.Mp) (n : Nat), vs = [.ref m] ∧ MatO K H m p dr dl ∧ DR H dr R n ∧ Q (.int (((List.range n).countP (fun k => (R k).isSome) : Nat) : Int)) H
theorem ok_size (T : Tx K mg) : O_Matching_size P w K mg base 1 (sp_size K) := by
  refine T.F_Matching_size.ok sc_Matching_size (fun vs H Q E h => ?_) (fun cdv A outer s H vs Q E hr h => ?_)
  · obtain ⟨m, p, dr, dl, R, n, rfl, _⟩ := h
    rfl
  · obtain ⟨m, p, dr, dl, R, n, rfl, ⟨⟨dx, hm⟩, _⟩, ⟨kvs, h1, h2, h3⟩, k⟩ := h
    refine ⟨_, PSs.nox ((pss_one (ps_ret (pe_callB call_lenD (by rfl) T.f_len (by decide +kernel) (pa_cons (show PE _ _ (tFld K _ _) from pe_fld (pv 0) rfl) pa_nil))))), ?_⟩
    walk_at "go"
    refine Sx.fldA hm T.c_Matching T.n_Matching__rights (v := .ref dr) (by kernel_rfl) ?_
    walk_at "go"
    refine ⟨dr, kvs, rfl, h1, ?_⟩
    rw [h3]
    exact k
/-- new lists of numbers in a new list -/
def NewLs (H H' : Hp) (p : Addr) (Ls : List (List Nat)) : Prop := H p = none ∧ ∃ ls : List Addr, H' p = some (.lst (ls.map V.ref)) ∧ ls.length = Ls.length ∧ ∀ (i : Nat) (l : Addr) (g : List Nat), ls[i]? = some l → Ls[i]? = some g → H l = none ∧ H' l = some (.lst (RpX.vn g))
def sp_chains (K : PySem.W.Frag) : Sp := fun vs H Q _ => ∃ (m p dr dl : Addr) (Gl : List (List Nat)) (R L : Ma.Mp), vs = [.ref m] ∧ MatO K H m p dr dl ∧ LinesAt H p Gl ∧ Gl.length ≤ 60 ∧ Ma.Gr (gOf Gl) Gl.length ∧ Ma.Mt (gOf Gl) Gl.length R L ∧ DR H dr R Gl.length ∧ DR H dl L Gl.length ∧
  ∀ (c : Addr) (H' : Hp), Same H H' → NewLs H H' c (Ma.chains R L Gl.length) → Q (.ref c) H'
theorem ok_chains (T : Tx K mg) : O_Matching_chains P w K mg base 1 (sp_chains K) := by
  refine T.F_Matching_chains.ok sc_Matching_chains (fun vs H Q E h => ?_) (fun cdv A outer s H vs Q E hr h => ?_)
  · obtain ⟨m, p, dr, dl, Gl, R, L, rfl, _⟩ := h
    rfl
  · obtain ⟨m, p, dr, dl, Gl, R, L, rfl, ⟨⟨dx, hm⟩, _⟩, ⟨ls, hp, hls, _⟩, hn, g, M, hR, hL, k⟩ := h
    refine ⟨_, PSs.nox ((pss_cons (ps_set (i := 1) sc_Matching_chains.nd rfl (Or.inl rfl) (pe_lst pa_nil)) (pss_cons (ps_for PassesOwn.never rfl (pi_range1 (by rfl) T.f_range (pa_cons (pe_callB (Kw.len K) (by rfl) T.f_len (by decide +kernel) (pa_cons (show PE _ _ (tFld K _ _) from pe_fld (pv 0) rfl) pa_nil)) pa_nil)) (pg_name (i := 2) sc_Matching_chains.nd rfl (Or.inl rfl)) (pss_cons (ps_if (pt_cmp (pc_din (hu_of hr) (pv 2) (show PE _ _ (tFld K _ _) from pe_fld (pv 0) rfl))) (pss_one (ps_continue)) pss_nil) (pss_cons (ps_set (i := 3) sc_Matching_chains.nd rfl (Or.inl rfl) (pe_lst pa_nil)) (pss_cons (ps_set (i := 4) sc_Matching_chains.nd rfl (Or.inl rfl) (pv 2)) (pss_cons (ps_while PassesOwn.never (pt_cmpR op_notN (pv 4) pe_non (nomark _)) (pss_cons (ps_expr (show PE _ _ (tBM K _ _ _ _) from pe_bm PySem.F.plainAttrs_list PySem.F.slot_list_append PySem.F.type_list_append mt_append (pv 3) (pa_cons (pv 4) pa_nil))) (pss_one (ps_set (i := 4) sc_Matching_chains.nd rfl (Or.inl rfl) (pe_dget1 (hu_of hr) (show PE _ _ (tFld K _ _) from pe_fld (pv 0) rfl) (pv 4) ⟨rfl, rfl, rfl, rfl⟩))))) (pss_one (ps_expr (show PE _ _ (tBM K _ _ _ _) from pe_bm PySem.F.plainAttrs_list PySem.F.slot_list_append PySem.F.type_list_append mt_append (pv 1) (pa_cons (pv 3) pa_nil))))))))) (pss_one (ps_ret (pv 1)))))), ?_⟩
    have f0 : (mf p dr dl).lookup ("_lines" : Str) = some (V.ref p) := by kernel_rfl
    have f1 : (mf p dr dl).lookup ("_rights" : Str) = some (V.ref dr) := by kernel_rfl
    have f2 : (mf p dr dl).lookup ("_lefts" : Str) = some (V.ref dl) := by kernel_rfl
    walk_at "go"
    refine Sx.nw (by decide) fun cp ncp => ?_
    have s1 : Same H (upd H cp (.lst [])) := Sx.same_new (Sx.same_rfl H) ncp
    have hc1 : (upd H cp (.lst [])) cp = some (.lst []) := upd_same
    generalize upd H cp (.lst []) = H1 at s1 hc1
    walk_at "go"
    refine Sx.fldA (s1 _ _ hm) T.c_Matching T.n_Matching__lines f0 ?_
    walk_at "go"
    refine Sx.lenL (SqL.of (s1 _ _ hp)) ?_
    have ell : (((ls.map V.ref).length : Nat) : Int) = (Gl.length : Int) := by rw [List.length_map, hls]
    rw [ell]
    walk_at "go"
    have keep : ∀ {H' : Hp} {d : Addr} {S : Ma.Mp}, Same H H' → DR H d S Gl.length → DR H' d S Gl.length := fun {H' d S} s ⟨kvs, z1, z2⟩ => ⟨kvs, s _ _ z1, z2⟩
    -- the lists made so far
    have bs : ∀ i, i < Gl.length → ((List.range (i + 1)).filter fun h => (L h).isNone) = ((List.range i).filter fun h => (L h).isNone) ++ (if (L i).isNone = true then [i] else []) := fun i _ => by
      rw [List.range_succ, List.filter_append, List.filter_cons]
      rfl
    refine ⟨(Gl.length : Int), rfl, by omega, by omega, VrX.for_J (n := Gl.length) (fun i σ H' => (Same H H' ∧ ∃ ls' : List Addr, H' cp = some (.lst (ls'.map V.ref)) ∧ ls'.length = ((List.range i).filter fun h => (L h).isNone).length ∧ ∀ (j : Nat) (l h : _), ls'[j]? = some l → ((List.range i).filter fun h => (L h).isNone)[j]? = some h → H l = none ∧ l ≠ cp ∧ H' l = some (.lst (RpX.vn (Ma.chainO R (Gl.length + 1) (some h))))) ∧ ∃ v2 v3 v4, σ = [some (.ref m), some (.ref cp), v2, v3, v4])
      ⟨⟨s1, [], hc1, rfl, fun j l h e => (by cases e)⟩, _, _, _, rfl⟩ (fun _ _ _ => by show (Gl.length : Int).toNat ≤ _; omega) (fun i _ _ hi _ => by show i < (Gl.length : Int).toNat; omega) ?_ ?_⟩
    · rintro i y σ H4 H5 hi ⟨⟨s4, ls', hcp, hlen, hl⟩, v2, v3, v4, rfl⟩ ⟨rfl, rfl⟩
      rw [Int.zero_add]
      rw [bs i hi]
      walk_at "go"
      refine Sx.fldA (s4 _ _ hm) T.c_Matching T.n_Matching__lefts f2 ?_
      refine ⟨dl, _, rfl, (keep s4 hL).get i, ?_⟩
      walk_at "go"
      cases hli : L i with
      | some z =>
        refine Sx.bT rfl ?_
        walk_at "go"
        rw [show (if (some z).isNone = true then [i] else []) = ([] : List Nat) from rfl, List.append_nil]
        exact ⟨⟨s4, ls', hcp, hlen, hl⟩, _, _, _, rfl⟩
      | none =>
        refine Sx.bF rfl ?_
        rw [show (if (none : Option Nat).isNone = true then [i] else []) = [i] from rfl]
        walk_at "go"
        refine Sx.nw (by decide) fun hp' nhp => ?_
        have s5 : Same H5 (upd H5 hp' (.lst [])) := Sx.same_new (Sx.same_rfl _) nhp
        have hh5 : (upd H5 hp' (.lst [])) hp' = some (.lst (RpX.vn [])) := upd_same
        generalize upd H5 hp' (.lst []) = H6 at s5 hh5
        walk_at "go"
        refine ⟨fun f σ H' => ∃ (o : Option Nat) (acc : List Nat), Same H5 H' ∧ H' hp' = some (.lst (RpX.vn acc)) ∧ acc ++ Ma.chainO R f o = Ma.chainO R (Gl.length + 1) (some i) ∧ Ma.TermC R f o ∧ acc.length + f ≤ Gl.length + 1 ∧ σ = [some (.ref m), some (.ref cp), some (.int (i : Nat)), some (.ref hp'), some (oV o)],
          ⟨Gl.length + 1, some i, [], s5, hh5, rfl, M.termC g i, by simp, rfl⟩, ?_⟩
        rintro f σ H7 ⟨o, acc, s7, hh7, eacc, ht, hf, rfl⟩
        walk_at "go"
        cases o with
        | none =>
          refine Sx.ndT rfl ?_
          rw [Ma.chainO_none, List.append_nil] at eacc
          subst eacc
          have hcp7 := s7 _ _ hcp
          have ll : ls'.length ≤ 60 := by
            rw [hlen]
            have := List.length_filter_le (fun h => (L h).isNone) (List.range i)
            rw [List.length_range] at this
            omega
          walk_at "go"
          refine Sx.appA hcp7 ?_
          walk_at "go"
          refine Sx.appB hcp7 (by rw [List.length_map]; omega) ?_
          have hpc : hp' ≠ cp := (ne_of_none hcp nhp).symm
          refine ⟨⟨Sx.same_new (Same.trans s4 s7) ncp, ls' ++ [hp'], ?_, ?_, fun j l h e1 e2 => ?_⟩, _, _, _, rfl⟩
          · rw [upd_same, List.map_append]
            rfl
          · rw [List.length_append, List.length_append, hlen]
            rfl
          · by_cases hj : j < ls'.length
            · rw [List.getElem?_append_left hj] at e1
              rw [List.getElem?_append_left (by rw [← hlen]; exact hj)] at e2
              obtain ⟨z1, z2, z3⟩ := hl j l h e1 e2
              exact ⟨z1, z2, by rw [upd_ne z2]; exact s7 _ _ z3⟩
            · rw [List.getElem?_append_right (by omega)] at e1
              rw [List.getElem?_append_right (by rw [← hlen]; omega), ← hlen] at e2
              cases e6 : j - ls'.length with
              | zero =>
                rw [e6] at e1 e2
                obtain rfl : hp' = l := Option.some.inj e1
                obtain rfl : i = h := Option.some.inj e2
                exact ⟨Sx.new_none s4 nhp, hpc, by rw [upd_ne hpc]; exact hh7⟩
              | succ z =>
                rw [e6] at e1
                cases e1
        | some r =>
          cases f with
          | zero => exact ht.elim
          | succ f =>
            refine Sx.ndF (fun z => by cases z) ?_
            refine ⟨fun σ' H' => ∃ (o : Option Nat) (acc : List Nat), Same H5 H' ∧ H' hp' = some (.lst (RpX.vn acc)) ∧ acc ++ Ma.chainO R f o = Ma.chainO R (Gl.length + 1) (some i) ∧ Ma.TermC R f o ∧ acc.length + f ≤ Gl.length + 1 ∧ σ' = [some (.ref m), some (.ref cp), some (.int (i : Nat)), some (.ref hp'), some (oV o)],
              fun σ' H' h => ⟨f, Nat.lt_succ_self _, h⟩, ?_⟩
            have eo : oV (some r) = V.int (r : Nat) := rfl
            rw [eo]
            walk_at "go"
            refine Sx.appA hh7 ?_
            walk_at "go"
            refine Sx.appB hh7 (by rw [List.length_map]; omega) ?_
            have s8 : Same H5 (upd H7 hp' (.lst (RpX.vn acc ++ [V.int (r : Nat)]))) := Sx.same_new s7 nhp
            have hh8 : (upd H7 hp' (.lst (RpX.vn acc ++ [V.int (r : Nat)]))) hp' = some (.lst (RpX.vn (acc ++ [r]))) := by
              rw [upd_same, vn_app]
              rfl
            generalize upd H7 hp' (.lst (RpX.vn acc ++ [V.int (r : Nat)])) = H8 at s8 hh8
            walk_at "go"
            refine dg1 ?_
            refine Sx.fld ?_
            walk_at "go"
            have s08 := Same.trans s4 s8
            refine Sx.fldA (s08 _ _ hm) T.c_Matching T.n_Matching__rights f1 ?_
            refine ⟨dr, rfl, (keep s08 hR).isd, ?_⟩
            walk_at "go"
            refine ⟨_, (keep s08 hR).get r, ?_⟩
            have eg : ((R r).map fun v => V.int (v : Nat)).getD .non = oV (R r) := by cases R r <;> rfl
            rw [eg]
            refine ⟨R r, acc ++ [r], s8, hh8, ?_, ht, by rw [List.length_append]; show acc.length + 1 + f ≤ _; omega, rfl⟩
            rw [← eacc, List.append_assoc]
            rfl
    · rintro σ H4 ⟨⟨s4, ls', hcp, hlen, hl⟩, v2, v3, v4, rfl⟩
      walk_at "go"
      refine k cp H4 s4 ⟨ncp, ls', hcp, ?_, fun j l gg e1 e2 => ?_⟩
      · unfold Ma.chains Ma.heads
        rw [List.length_map]
        exact hlen
      · unfold Ma.chains Ma.heads at e2
        rw [List.getElem?_map] at e2
        obtain ⟨h, e3, rfl⟩ := Option.map_eq_some_iff.mp e2
        obtain ⟨z1, _, z3⟩ := hl j l h e1 e3
        exact ⟨z1, z3⟩
end
end Wk

set_option Elab.async false
set_option linter.all false
set_option maxRecDepth 100000
set_option maxHeartbeats 2000000
namespace Wk
open PySem PySem.Spec PyProof.Rows L2 NdefX SuX Hk
local macro_rules | `(tactic| walk_at "st") => `(tactic| first
  | with_reducible refine Sx.ret ?_
  | with_reducible refine Sx.retN ?_
  | with_reducible refine Sx.seq ?_
  | with_reducible refine Sx.next ?_
  | with_reducible refine Sx.brk ?_
  | with_reducible refine Sx.cont ?_
  | with_reducible refine Sx.drop ?_
  | with_reducible refine Sx.asg ?_
  | with_reducible refine Sx.gname ?_
  | with_reducible refine Sx.ifS ?_
  | with_reducible refine Sx.var ?_
  | with_reducible refine Sx.con ?_
  | with_reducible refine Sx.op ?_
  | with_reducible refine Sx.un ?_
  | with_reducible refine Sx.cb ?_
  | with_reducible refine Sx.cons ?_
  | with_reducible refine Sx.nil ?_
  | with_reducible refine Sx.call ?_
  | with_reducible refine Sx.test ?_
  | with_reducible refine Sx.tb_ ?_
  | with_reducible refine Sx.bl ?_
  | with_reducible refine Sx.and_ ?_
  | with_reducible refine Sx.or_ ?_
  | with_reducible refine Sx.not_ ?_
  | with_reducible refine Sx.andV ?_
  | with_reducible refine Sx.orV ?_
  | with_reducible refine Sx.notV ?_
  | with_reducible refine Sx.ife ?_
  | with_reducible refine Sx.i0 ?_
  | with_reducible refine Sx.iU ?_
  | with_reducible refine Sx.eqI ?_
  | with_reducible refine Sx.eqS ?_
  | with_reducible refine Sx.neI ?_
  | with_reducible refine Sx.neS ?_
  | with_reducible refine Sx.isN' ?_
  | with_reducible refine Sx.chain ?_
  | with_reducible refine Sx.aug ?_
  | with_reducible refine Sx.ipI' ?_
  | with_reducible refine Sx.ifT ?_
  | with_reducible refine Sx.ifF ?_
  | with_reducible refine Sx.ifnF ?_
  | with_reducible refine Sx.ifnT ?_
  | with_reducible refine Sx.tup ?_
  | with_reducible refine Sx.lst ?_
  | with_reducible refine Sx.fld ?_
  | with_reducible refine Sx.sfld ?_
  | with_reducible refine Sx.meth ?_
  | with_reducible refine Sx.app ?_
  | with_reducible refine Sx.gcons ?_
  | with_reducible refine Sx.gnil ?_
  | with_reducible refine Sx.dget ?_
  | with_reducible refine Sx.din ?_
  | with_reducible refine Sx.dnin ?_
  | with_reducible refine Sx.dput ?_
  | with_reducible refine Sx.forS ?_
  | with_reducible refine Sx.ikeys ?_
  | with_reducible refine Sx.ienumT ?_
  | with_reducible refine Sx.scT ?_
  | with_reducible refine Sx.dc2 ?_
  | with_reducible refine Sx.tru ?_
  | with_reducible refine Sx.mv ?_
  | with_reducible refine Sx.cv ?_
  | with_reducible refine Sx.cw ?_
  | with_reducible refine Sx.join ?_
  | with_reducible refine Sx.lc ?_
  | with_reducible refine Sx.istr ?_
  | with_reducible refine Sx.ilist ?_
  | with_reducible refine Sx.itup ?_
  | with_reducible refine Sx.irng1 ?_
  | with_reducible refine Sx.irng2 ?_
  | with_reducible refine Sx.ienum ?_
  | with_reducible refine Sx.izip ?_
  | with_reducible refine Sx.irev ?_
  | with_reducible refine Sx.iitems ?_
  | with_reducible refine Sx.yes ?_
  | with_reducible refine Sx.js_cons ?_
  | with_reducible refine Sx.js_nil ?_
  | with_reducible refine Sx.fmt ?_
  | with_reducible refine Sx.isi_int ?_
  | with_reducible refine Sx.isi_intb ?_
  | with_reducible refine Sx.isi_str ?_)
local macro_rules | `(tactic| walk_at "go") => `(tactic| repeat walk_at "st")
local macro_rules | `(tactic| walk_at "is") => `(tactic| simp only [Option.isSome_some, Option.isSome_none, Bool.not_true, Bool.not_false])
/-! Matching.apart. -/
section
variable {P : Program} {w : World} {K : PySem.W.Frag} {mg : Str → Option Value} {base : Heap}
/-- a dict whose keys are the numbers in q -/
def DS (H : Hp) (d : Addr) (q : List Nat) : Prop := ∃ kvs : List (Key × V), H d = some (.dK kvs) ∧ kvs.length ≤ q.length ∧ ∀ k : Nat, (valV kvs (Sum.inl (k : Int))).isSome = decide (k ∈ q)
theorem DS.same {H H' : Hp} {d : Addr} {q : List Nat} (s : H' d = H d) (h : DS H d q) : DS H' d q := let ⟨kvs, h1, h2⟩ := h; ⟨kvs, s.trans h1, h2⟩
theorem DS.put {kvs : List (Key × V)} {H : Hp} {d : Addr} {q : List Nat} {k : Nat} {v : V} (h2 : kvs.length ≤ q.length) (h3 : ∀ k : Nat, (valV kvs (Sum.inl (k : Int))).isSome = decide (k ∈ q)) : DS (upd H d (.dK (putK kvs (Sum.inl (k : Int)) v))) d (q ++ [k]) := by
  refine ⟨_, upd_same, ?_, fun j => ?_⟩
  · have := length_putK kvs (Sum.inl (k : Int)) v
    rw [List.length_append]
    show _ ≤ q.length + 1
    omega
  · rw [valV_put]
    by_cases e : j = k
    · rw [e, if_pos rfl, decide_eq_true (List.mem_append_right _ (List.mem_singleton.mpr rfl))]
      rfl
    · rw [if_neg (fun z => e (by have := Sum.inl.inj z; omega)), h3 j]
      refine decide_eq_decide.mpr ⟨fun z => List.mem_append_left _ z, fun z => ?_⟩
      rcases List.mem_append.mp z with y | y
      · exact y
      · exact absurd (List.mem_singleton.mp y) e
theorem scanA_cons {L : Ma.Mp} {r : Nat} {rs q y : List Nat} : Ma.scanA L (r :: rs) q y = Ma.scanA L rs (Ma.scanA L [r] q y).1 (Ma.scanA L [r] q y).2 := by
  show (if r ∈ y then Ma.scanA L rs q y else match L r with
    | none => Ma.scanA L rs q (y ++ [r])
    | some p => if p ∈ q then Ma.scanA L rs q (y ++ [r]) else Ma.scanA L rs (q ++ [p]) (y ++ [r])) = _
  have e : Ma.scanA L [r] q y = (if r ∈ y then (q, y) else match L r with
    | none => (q, y ++ [r])
    | some p => if p ∈ q then (q, y ++ [r]) else (q ++ [p], y ++ [r])) := rfl
  rw [e]
  split
  · rfl
  · cases L r with
    | none => rfl
    | some p =>
      show (if p ∈ q then _ else _) = Ma.scanA L rs (if p ∈ q then (q, y ++ [r]) else (q ++ [p], y ++ [r])).1 (if p ∈ q then (q, y ++ [r]) else (q ++ [p], y ++ [r])).2
      split <;> rfl
theorem dcS {wi : TI} {g : TG} {tt : TT} {tk tv : TE} {vs : List Nat} {σ : L2.St} {H : Hp} {Q : VK} (k : wi σ H fun J H1 => ∀ D, H1 D = none → ∃ W : Nat → Nat → Hp → Prop, (∃ m, W 0 m (upd H1 D (.dK []))) ∧ ∀ i m H, W i m H →
  (J.stop i H ∧ Q (.ref D) H) ∨ (J.go i H ∧ ∃ Nx : Hp → Prop, (∀ H', Nx H' → ∃ m', m' < m ∧ W (i + 1) m' H') ∧ ∀ x H', J.yld i H x H' → g x (wipe σ vs) H' fun σ2 H2 => wipe σ2 vs = wipe σ vs ∧ tt σ2 H2 fun b H3 =>
    if b = true then tk σ2 H3 fun y H4 => tv σ2 H4 fun z H5 => ∃ kvs k, y = kV k ∧ H5 D = some (.dK kvs) ∧ kvs.length < sizeLine ∧ Nx (upd H5 D (.dK (putK kvs k z))) else Nx H3)) : tDc wi g tt tk tv vs σ H Q := k
def sp_apart (K : PySem.W.Frag) : Sp := fun vs H Q _ => ∃ (m p dr dl : Addr) (Gl : List (List Nat)) (R L : Ma.Mp), vs = [.ref m] ∧ MatO K H m p dr dl ∧ LinesAt H p Gl ∧ Gl.length ≤ 60 ∧ Ma.Gr (gOf Gl) Gl.length ∧ Ma.Mt (gOf Gl) Gl.length R L ∧ DR H dr R Gl.length ∧ DR H dl L Gl.length ∧
  ∀ (c : Addr) (H' : Hp), Same H H' → H c = none → H' c = some (.lst (RpX.vn (Ma.apart (gOf Gl) R L Gl.length))) → Q (.ref c) H'
theorem ok_apart (T : Tx K mg) : O_Matching_apart P w K mg base 1 (sp_apart K) := by
  refine T.F_Matching_apart.ok sc_Matching_apart (fun vs H Q E h => ?_) (fun cdv A outer s H vs Q E hr h => ?_)
  · obtain ⟨m, p, dr, dl, Gl, R, L, rfl, _⟩ := h
    rfl
  · obtain ⟨m, p, dr, dl, Gl, R, L, rfl, ⟨⟨dx, hm⟩, _⟩, ⟨ls, hp, hls, hlg⟩, hn, g, M, hR, hL, k⟩ := h
    refine ⟨_, PSs.nox ((pss_cons (ps_setLc (i := 1) (own := [("left", 7)]) (g := gName 7) rfl sc_Matching_apart.nd rfl rfl (sw_true rfl rfl rfl (by decide +kernel)) (pi_range1 (by rfl) T.f_range (pa_cons (pe_callB (Kw.len K) (by rfl) T.f_len (by decide +kernel) (pa_cons (show PE _ _ (tFld K _ _) from pe_fld (pv 0) rfl) pa_nil)) pa_nil)) (blkOk_by (own := [("left", 7)]) (N := N_Matching_apart) (sc := defScope sd_Matching_apart) (by decide +kernel)) (fun _ _ _ _ _ => (pg_name (i := 7) sc_Matching_apart.nd rfl (Or.inl rfl))) (fun _ _ _ _ _ => (pts_one (pt_cmp (pc_dnotin (hu_of hr) (pv 7) (show PE _ _ (tFld K _ _) from pe_fld (pv 0) rfl))))) (fun _ _ _ _ _ => (pv 7))) (pss_cons (ps_set (i := 2) sc_Matching_apart.nd rfl (Or.inr rfl) (pe_dc (own := [("left", 7)]) rfl sc_Matching_apart.nd (show PI _ _ _ (iList K _) from pi_list (pv 1)) (blkOk_by (own := [("left", 7)]) (N := N_Matching_apart) (sc := defScope sd_Matching_apart) (by decide +kernel)) (fun _ _ _ _ _ => (pg_name (i := 7) sc_Matching_apart.nd rfl (Or.inl rfl))) (fun _ _ _ _ _ => pts_nil) (fun _ _ _ _ _ => (pv 7)) (fun _ _ _ _ _ => (pe_bl)))) (pss_cons (ps_set (i := 3) sc_Matching_apart.nd rfl (Or.inr rfl) (pe_dnewK)) (pss_cons (ps_set (i := 4) sc_Matching_apart.nd rfl (Or.inl rfl) (pe_int)) (pss_cons (ps_while PassesOwn.never (pt_cmpR op_lt (pv 4) (pe_callB (Kw.len K) (by rfl) T.f_len (by decide +kernel) (pa_cons (pv 1) pa_nil)) (nomark _)) (pss_cons (ps_for PassesOwn.never rfl (show PI _ _ _ (iList K _) from pi_list (pe_ix (Kw.ixL K) (show PE _ _ (tFld K _ _) from pe_fld (pv 0) rfl) (pe_ix (Kw.ixL K) (pv 1) (pv 4) (fun _ _ => rfl)) (fun _ _ => rfl))) (pg_name (i := 5) sc_Matching_apart.nd rfl (Or.inl rfl)) (pss_one (ps_if (pt_cmp (pc_dnotin (hu_of hr) (pv 5) (pv 3))) (pss_cons (ps_dput (hu_of hr) (pv 3) (pv 5) (pe_bl) rfl) (pss_cons (ps_set (i := 6) sc_Matching_apart.nd rfl (Or.inl rfl) (pe_dget (hu_of hr) (show PE _ _ (tFld K _ _) from pe_fld (pv 0) rfl) (pv 5) (fun _ _ => rfl))) (pss_one (ps_if (pt_cmp (pc_dnotin (hu_of hr) (pv 6) (pv 2))) (pss_cons (ps_dput (hu_of hr) (pv 2) (pv 6) (pe_bl) rfl) (pss_one (ps_expr (show PE _ _ (tBM K _ _ _ _) from pe_bm PySem.F.plainAttrs_list PySem.F.slot_list_append PySem.F.type_list_append mt_append (pv 1) (pa_cons (pv 6) pa_nil))))) pss_nil)))) pss_nil))) (pss_one (ps_aug (i := 4) sc_Matching_apart.nd rfl (Or.inl rfl) (pe_int) ip_add)))) (pss_one (ps_ret (pe_lc (own := [("index", 8)]) (g := gName 8) rfl sc_Matching_apart.nd (pi_range1 (by rfl) T.f_range (pa_cons (pe_callB (Kw.len K) (by rfl) T.f_len (by decide +kernel) (pa_cons (show PE _ _ (tFld K _ _) from pe_fld (pv 0) rfl) pa_nil)) pa_nil)) (blkOk_by (own := [("index", 8)]) (N := N_Matching_apart) (sc := defScope sd_Matching_apart) (by decide +kernel)) (fun _ _ _ _ _ => (pg_name (i := 8) sc_Matching_apart.nd rfl (Or.inl rfl))) (fun _ _ _ _ _ => (pts_one (PW.pt (pw_and (pt_cmp (pc_din (hu_of hr) (pv 8) (pv 2))) (pw_and1 (pt_cmp (pc_dnotin (hu_of hr) (pv 8) (pv 3)))))))) (fun _ _ _ _ _ => (pv 8))))))))))), ?_⟩
    have f0 : (mf p dr dl).lookup ("_lines" : Str) = some (V.ref p) := by kernel_rfl
    have f1 : (mf p dr dl).lookup ("_rights" : Str) = some (V.ref dr) := by kernel_rfl
    have f2 : (mf p dr dl).lookup ("_lefts" : Str) = some (V.ref dl) := by kernel_rfl
    have ell : (((ls.map V.ref).length : Nat) : Int) = (Gl.length : Int) := by rw [List.length_map, hls]
    have keep : ∀ {H' : Hp} {d : Addr} {S : Ma.Mp}, Same H H' → DR H d S Gl.length → DR H' d S Gl.length := fun {H' d S} s ⟨kvs, z1, z2⟩ => ⟨kvs, s _ _ z1, z2⟩
    walk_at "go"
    refine Sx.fldA hm T.c_Matching T.n_Matching__lines f0 ?_
    walk_at "go"
    refine Sx.lenL (SqL.of hp) ?_
    rw [ell]
    walk_at "go"
    refine ⟨(Gl.length : Int), rfl, by omega, by omega, fun qp nqp => ?_⟩
    refine VrX.lc_J (n := Gl.length) (fun i H' => Same H H' ∧ H' qp = some (.lst (RpX.vn ((List.range i).filter fun x => (R x).isNone)))) ⟨Sx.same_new (Sx.same_rfl _) nqp, upd_same⟩
      (fun _ _ => by show (Gl.length : Int).toNat ≤ _; omega) (fun i _ hi _ => by show i < (Gl.length : Int).toNat; omega) ?_ ?_
    · rintro i y H1 H2 hi ⟨s1, hq⟩ ⟨rfl, rfl⟩
      rw [Int.zero_add]
      have ex : ((List.range (i + 1)).filter fun x => (R x).isNone) = ((List.range i).filter fun x => (R x).isNone) ++ (if (R i).isNone = true then [i] else []) := by
        rw [List.range_succ, List.filter_append, List.filter_cons]
        rfl
      have lnf := List.length_filter_le (fun x => (R x).isNone) (List.range i)
      rw [List.length_range] at lnf
      rw [ex]
      walk_at "go"
      refine ⟨rfl, ?_⟩
      walk_at "go"
      refine Sx.fldA (s1 _ _ hm) T.c_Matching T.n_Matching__rights f1 ?_
      refine ⟨dr, _, rfl, (keep s1 hR).get i, ?_⟩
      walk_at "go"
      cases hri : R i with
      | some z =>
        refine Sx.bF rfl ?_
        rw [show (if (some z).isNone = true then [i] else []) = ([] : List Nat) from rfl, List.append_nil]
        exact ⟨s1, hq⟩
      | none =>
        refine Sx.bT rfl ?_
        rw [show (if (none : Option Nat).isNone = true then [i] else []) = [i] from rfl]
        walk_at "go"
        refine ⟨_, hq, by rw [List.length_map, sizeLine_eq]; omega, Sx.same_new s1 nqp, ?_⟩
        rw [upd_same, vn_app]
        rfl
    rintro H1 ⟨s1, hq1⟩
    have hq1 : H1 qp = some (.lst (RpX.vn (Ma.free0 R Gl.length))) := hq1
    walk_at "go"
    have nq : H qp = none := nqp
    have f0l : (Ma.free0 R Gl.length).length ≤ 60 := by
      have := List.length_filter_le (fun x => (R x).isNone) (List.range Gl.length)
      rw [List.length_range] at this
      show ((List.range Gl.length).filter fun x => (R x).isNone).length ≤ 60
      omega
    have fvl : (RpX.vn (Ma.free0 R Gl.length)).length = (Ma.free0 R Gl.length).length := List.length_map _
    refine dcS ?_
    walk_at "go"
    refine ⟨qp, rfl, ⟨_, SqL.of hq1⟩, fun lf nlf => ?_⟩
    have nql : qp ≠ lf := ne_of_none hq1 nlf
    refine VrX.in_J (n := (Ma.free0 R Gl.length).length) (fun i H' => (Same H H' ∧ H' qp = some (.lst (RpX.vn (Ma.free0 R Gl.length)))) ∧ DS H' lf ((Ma.free0 R Gl.length).take i)) ⟨⟨Sx.same_new s1 (Sx.new_none s1 nlf), by rw [upd_ne nql]; exact hq1⟩, [], upd_same, Nat.le_refl _, fun k => rfl⟩
      (fun H' h => ⟨_, SqL.of h.1.2, by rw [fvl]; exact Nat.le_refl _⟩) (fun i H' hi h => ⟨_, _, SqL.of h.1.2, List.getElem?_eq_getElem (by rw [fvl]; exact hi)⟩) ?_ ?_
    · rintro i y H2 H3 hi ⟨⟨s2, hq2⟩, kvs, k1, k2, k3⟩ ⟨rfl, hy⟩
      have hx : (Ma.free0 R Gl.length)[i]? = some (Ma.free0 R Gl.length)[i] := List.getElem?_eq_getElem hi
      generalize (Ma.free0 R Gl.length)[i] = x at hx
      have hy2 := hy _ (SqL.of hq2)
      rw [List.getElem?_map, hx] at hy2
      obtain rfl : V.int (x : Nat) = y := Option.some.inj hy2
      walk_at "go"
      refine ⟨rfl, ?_⟩
      walk_at "go"
      refine ⟨kvs, Sum.inl (x : Int), rfl, k1, by rw [sizeLine_eq]; have := List.length_take_le i (Ma.free0 R Gl.length); omega, ⟨Sx.same_new s2 (Sx.new_none s1 nlf), by rw [upd_ne nql]; exact hq2⟩, ?_⟩
      have e : (Ma.free0 R Gl.length).take (i + 1) = (Ma.free0 R Gl.length).take i ++ [x] := by rw [List.take_succ, hx]; rfl
      rw [e]
      exact DS.put k2 k3
    rintro H2 ⟨⟨s2, hq2⟩, hlf⟩
    rw [List.take_length] at hlf
    have nlf0 : H lf = none := Sx.new_none s1 nlf
    walk_at "go"
    intro rg nrg
    walk_at "go"
    have nqr : qp ≠ rg := ne_of_none hq2 nrg
    have nlr : lf ≠ rg := let ⟨_, z, _⟩ := hlf; ne_of_none z nrg
    have nrg0 : H rg = none := Sx.new_none s2 nrg
    obtain ⟨Z, Y, hZ, hY, hF⟩ := M.cl
    have h3 : Same H (upd H2 rg (.dK [])) := Sx.same_new s2 nrg0
    have hq3 : (upd H2 rg (.dK [])) qp = some (.lst (RpX.vn (Ma.free0 R Gl.length))) := by rw [upd_ne nqr]; exact hq2
    have hlf3 : DS (upd H2 rg (.dK [])) lf (Ma.free0 R Gl.length) := hlf.same (upd_ne nlr)
    have hrg3 : DS (upd H2 rg (.dK [])) rg [] := ⟨[], upd_same, Nat.le_refl _, fun k => rfl⟩
    generalize upd H2 rg (.dK []) = H3 at h3 hq3 hlf3 hrg3
    refine ⟨fun f σ H' => ∃ (a : Nat) (q y : List Nat), Same H H' ∧ H' qp = some (.lst (RpX.vn q)) ∧ DS H' lf q ∧ DS H' rg y ∧ Ma.AI Gl.length R L Z Y q y ∧ a ≤ q.length ∧ f + a = Gl.length + 1 ∧ Ma.apLoop (gOf Gl) L f a q y = Ma.apQ (gOf Gl) R L Gl.length ∧
      ∃ v5 v6 v7 v8, σ = [some (.ref m), some (.ref qp), some (.ref lf), some (.ref rg), some (.int (a : Nat)), v5, v6, v7, v8],
      ⟨Gl.length + 1, 0, Ma.free0 R Gl.length, [], h3, hq3, hlf3, hrg3, Ma.AI.start hF, Nat.zero_le _, rfl, rfl, _, _, _, _, rfl⟩, ?_⟩
    rintro f σ H4 ⟨a, q, y, s4, hq4, hl4, hr4, A4, ha, hf, hb, v5, v6, v7, v8, rfl⟩
    have hql : (RpX.vn q).length = q.length := List.length_map _
    have hqn : q.length ≤ Gl.length := Ma.nodup_le _ _ (A4.qnd M hY) A4.ql
    walk_at "go"
    refine Sx.lenL (SqL.of hq4) ?_
    walk_at "go"
    refine Sx.ifd (fun lt => ?_) (fun ge => ?_)
    · rw [hql] at lt
      have hlt : a < q.length := by omega
      have hqa : q[a]? = some q[a] := List.getElem?_eq_getElem hlt
      generalize q[a] = l at hqa
      have hlm := List.mem_of_getElem? hqa
      have hln := A4.ql l hlm
      obtain ⟨f, rfl⟩ : ∃ f', f = f' + 1 := ⟨f - 1, by omega⟩
      refine ⟨fun σ' H' => ∃ (a : Nat) (q y : List Nat), Same H H' ∧ H' qp = some (.lst (RpX.vn q)) ∧ DS H' lf q ∧ DS H' rg y ∧ Ma.AI Gl.length R L Z Y q y ∧ a ≤ q.length ∧ f + a = Gl.length + 1 ∧ Ma.apLoop (gOf Gl) L f a q y = Ma.apQ (gOf Gl) R L Gl.length ∧
        ∃ v5 v6 v7 v8, σ' = [some (.ref m), some (.ref qp), some (.ref lf), some (.ref rg), some (.int (a : Nat)), v5, v6, v7, v8], fun σ' H' h => ⟨f, Nat.lt_succ_self _, h⟩, ?_⟩
      walk_at "go"
      obtain ⟨ll, hll⟩ : ∃ ll, ls[l]? = some ll := ⟨_, List.getElem?_eq_getElem (by rw [hls]; exact hln)⟩
      obtain ⟨gg, hg⟩ : ∃ g, Gl[l]? = some g := ⟨_, List.getElem?_eq_getElem hln⟩
      have hgl := hlg l ll gg hll hg
      have eg := gOf_lt hg
      refine Sx.fldA (s4 _ _ hm) T.c_Matching T.n_Matching__lines f0 ?_
      walk_at "go"
      refine Sx.ixL (SqL.of hq4) (v := .int (l : Nat)) (atI_nat (j := a) (by rw [List.getElem?_map, hqa]; rfl)) ?_
      refine Sx.ixL (SqL.of (s4 _ _ hp)) (v := .ref ll) (atI_nat (j := l) (by rw [List.getElem?_map, hll]; rfl)) ?_
      have hvg : (RpX.vn gg).length = gg.length := List.length_map _
      refine ⟨ll, rfl, ⟨_, SqL.of (s4 _ _ hgl)⟩, VrX.for_J (n := gg.length) (fun j σ H' => (∃ (q1 y1 : List Nat), Same H H' ∧ H' qp = some (.lst (RpX.vn q1)) ∧ DS H' lf q1 ∧ DS H' rg y1 ∧ Ma.AI Gl.length R L Z Y q1 y1 ∧ q.length ≤ q1.length ∧ Ma.scanA L (gg.drop j) q1 y1 = Ma.scanA L gg q y) ∧ ∃ v5 v6 v7 v8, σ = [some (.ref m), some (.ref qp), some (.ref lf), some (.ref rg), some (.int (a : Nat)), v5, v6, v7, v8])
        ⟨⟨q, y, s4, hq4, hl4, hr4, A4, Nat.le_refl _, rfl⟩, _, _, _, _, rfl⟩
        (fun σ H' h => let ⟨⟨_, _, z, _⟩, _⟩ := h; ⟨_, SqL.of (z _ _ hgl), by rw [hvg]; exact Nat.le_refl _⟩) (fun j σ H' hj h => let ⟨⟨_, _, z, _⟩, _⟩ := h; ⟨_, _, SqL.of (z _ _ hgl), List.getElem?_eq_getElem (by rw [hvg]; exact hj)⟩) ?_ ?_⟩
      · rintro j u σ H5 H6 hj ⟨⟨q1, y1, s5, hq5, hl5, hr5, A5, hqq, hsc⟩, v5, v6, v7, v8, rfl⟩ ⟨rfl, hu⟩
        have hr : gg[j]? = some gg[j] := List.getElem?_eq_getElem hj
        have hdr : gg.drop j = gg[j] :: gg.drop (j + 1) := List.drop_eq_getElem_cons hj
        generalize gg[j] = r at hr hdr
        have hu2 := hu _ (SqL.of (s5 _ _ hgl))
        rw [List.getElem?_map, hr] at hu2
        obtain rfl : V.int (r : Nat) = u := Option.some.inj hu2
        have hrg : r ∈ gOf Gl l := by rw [eg]; exact List.mem_of_getElem? hr
        have hYr := hZ l (A4.qZ l hlm) r hrg
        obtain ⟨p0, hp1, hp2⟩ := hY r hYr
        rw [hdr, scanA_cons] at hsc
        obtain ⟨A6, _, _, t6, e6⟩ := Ma.scanA_ok M hY [r] q1 y1 A5 fun x hx => by rw [List.mem_singleton.mp hx]; exact hYr
        have hq1n : q1.length ≤ Gl.length := Ma.nodup_le _ _ (A5.qnd M hY) A5.ql
        obtain ⟨kr, r1, r2, r3⟩ := id hr5
        have y1n : y1.length ≤ Gl.length := by
          have := congrArg List.length A5.qe
          rw [List.length_append, List.length_map] at this
          omega
        walk_at "go"
        refine ⟨rg, valV kr (Sum.inl (r : Int)), rfl, DGet.k (k := Sum.inl (r : Int)) r1, ?_⟩
        rw [r3 r]
        walk_at "go"
        by_cases hry : r ∈ y1
        · refine Sx.ndT hry ?_
          have e : Ma.scanA L [r] q1 y1 = (q1, y1) := if_pos hry
          rw [e] at hsc
          walk_at "go"
          exact ⟨⟨q1, y1, s5, hq5, hl5, hr5, A5, hqq, hsc⟩, _, _, _, _, rfl⟩
        · refine Sx.ndF hry ?_
          have e0 : Ma.scanA L [r] q1 y1 = (if p0 ∈ q1 then (q1, y1 ++ [r]) else (q1 ++ [p0], y1 ++ [r])) := by
            show (if r ∈ y1 then (q1, y1) else match L r with
              | none => (q1, y1 ++ [r])
              | some p => if p ∈ q1 then (q1, y1 ++ [r]) else (q1 ++ [p], y1 ++ [r])) = _
            rw [if_neg hry, hp2]
          walk_at "go"
          refine Sx.dpI (x := (r : Nat)) r1 (by omega) ?_
          have hr7 : DS (upd H6 rg (.dK (putK kr (Sum.inl (r : Int)) (.bl true)))) rg (y1 ++ [r]) := DS.put r2 r3
          have s7 : Same H (upd H6 rg (.dK (putK kr (Sum.inl (r : Int)) (.bl true)))) := Sx.same_new s5 nrg0
          have hq7 : (upd H6 rg (.dK (putK kr (Sum.inl (r : Int)) (.bl true)))) qp = some (.lst (RpX.vn q1)) := by rw [upd_ne nqr]; exact hq5
          have hl7 : DS (upd H6 rg (.dK (putK kr (Sum.inl (r : Int)) (.bl true)))) lf q1 := hl5.same (upd_ne nlr)
          generalize upd H6 rg (.dK (putK kr (Sum.inl (r : Int)) (.bl true))) = H7 at hr7 s7 hq7 hl7
          obtain ⟨kl, l1, l2, l3⟩ := id hl7
          walk_at "go"
          refine Sx.fldA (s7 _ _ hm) T.c_Matching T.n_Matching__lefts f2 ?_
          walk_at "go"
          refine ⟨dl, .int (p0 : Nat), rfl, by have := (keep s7 hL).get r; rw [hp2] at this; exact this, ?_⟩
          walk_at "go"
          refine ⟨lf, valV kl (Sum.inl (p0 : Int)), rfl, DGet.k (k := Sum.inl (p0 : Int)) l1, ?_⟩
          rw [l3 p0]
          walk_at "go"
          by_cases hpq : p0 ∈ q1
          · refine Sx.ndT hpq ?_
            rw [if_pos hpq] at e0
            rw [e0] at hsc A6
            walk_at "go"
            exact ⟨⟨q1, y1 ++ [r], s7, hq7, hl7, hr7, A6, hqq, hsc⟩, _, _, _, _, rfl⟩
          · refine Sx.ndF hpq ?_
            rw [if_neg hpq] at e0
            rw [e0] at hsc A6
            walk_at "go"
            refine Sx.dpI (x := (p0 : Nat)) l1 (by omega) ?_
            have hl8 : DS (upd H7 lf (.dK (putK kl (Sum.inl (p0 : Int)) (.bl true)))) lf (q1 ++ [p0]) := DS.put l2 l3
            have s8 : Same H (upd H7 lf (.dK (putK kl (Sum.inl (p0 : Int)) (.bl true)))) := Sx.same_new s7 nlf0
            have hq8 : (upd H7 lf (.dK (putK kl (Sum.inl (p0 : Int)) (.bl true)))) qp = some (.lst (RpX.vn q1)) := by rw [upd_ne nql]; exact hq7
            have hr8 : DS (upd H7 lf (.dK (putK kl (Sum.inl (p0 : Int)) (.bl true)))) rg (y1 ++ [r]) := hr7.same (upd_ne nlr.symm)
            generalize upd H7 lf (.dK (putK kl (Sum.inl (p0 : Int)) (.bl true))) = H8 at hl8 s8 hq8 hr8
            walk_at "go"
            refine Sx.appA hq8 ?_
            walk_at "go"
            refine Sx.appB hq8 (by rw [List.length_map]; omega) ?_
            refine ⟨⟨q1 ++ [p0], y1 ++ [r], Sx.same_new s8 nq, ?_, hl8.same (upd_ne nql.symm), hr8.same (upd_ne nqr.symm), A6, by rw [List.length_append]; omega, hsc⟩, _, _, _, _, rfl⟩
            rw [upd_same, vn_app]
            rfl
      · rintro σ H5 ⟨⟨q1, y1, s5, hq5, hl5, hr5, A5, hqq, hsc⟩, v5, v6, v7, v8, rfl⟩
        rw [List.drop_length] at hsc
        walk_at "go"
        refine ⟨a + 1, q1, y1, s5, hq5, hl5, hr5, A5, by omega, by omega, ?_, _, _, _, _, rfl⟩
        rw [← hb]
        show _ = (match q[a]? with | none => (q, y) | some l => Ma.apLoop (gOf Gl) L f (a + 1) (Ma.scanA L (gOf Gl l) q y).1 (Ma.scanA L (gOf Gl l) q y).2)
        rw [hqa]
        show _ = Ma.apLoop (gOf Gl) L f (a + 1) (Ma.scanA L (gOf Gl l) q y).1 (Ma.scanA L (gOf Gl l) q y).2
        rw [eg, ← hsc]
        rfl
    · rw [hql] at ge
      have hqn' : q[a]? = none := List.getElem?_eq_none (by omega)
      have e : Ma.apQ (gOf Gl) R L Gl.length = (q, y) := by
        rw [← hb]
        cases f with
        | zero => rfl
        | succ f =>
          show (match q[a]? with | none => (q, y) | some l => _) = _
          rw [hqn']
      obtain ⟨kl, l1, l2, l3⟩ := id hl4
      obtain ⟨kr, r1, r2, r3⟩ := id hr4
      walk_at "go"
      refine Sx.fldA (s4 _ _ hm) T.c_Matching T.n_Matching__lines f0 ?_
      walk_at "go"
      refine Sx.lenL (SqL.of (s4 _ _ hp)) ?_
      rw [ell]
      walk_at "go"
      refine ⟨(Gl.length : Int), rfl, by omega, by omega, fun c nc => ?_⟩
      have nlc : lf ≠ c := ne_of_none l1 nc
      have nrc : rg ≠ c := ne_of_none r1 nc
      refine VrX.lc_J (n := Gl.length) (fun i H' => (Same H H' ∧ H' lf = some (.dK kl) ∧ H' rg = some (.dK kr)) ∧ H' c = some (.lst (RpX.vn ((List.range i).filter fun x => decide (x ∈ q) && !decide (x ∈ y))))) ⟨⟨Sx.same_new s4 (Sx.new_none s4 nc), by rw [upd_ne nlc]; exact l1, by rw [upd_ne nrc]; exact r1⟩, upd_same⟩
        (fun _ _ => by show (Gl.length : Int).toNat ≤ _; omega) (fun i _ hi _ => by show i < (Gl.length : Int).toNat; omega) ?_ ?_
      · rintro i z H5 H6 hi ⟨⟨s5, hl5, hr5⟩, hc5⟩ ⟨rfl, rfl⟩
        rw [Int.zero_add]
        have ex : ((List.range (i + 1)).filter fun x => decide (x ∈ q) && !decide (x ∈ y)) = ((List.range i).filter fun x => decide (x ∈ q) && !decide (x ∈ y)) ++ (if (decide (i ∈ q) && !decide (i ∈ y)) = true then [i] else []) := by
          rw [List.range_succ, List.filter_append, List.filter_cons]
          rfl
        have lnf := List.length_filter_le (fun x => decide (x ∈ q) && !decide (x ∈ y)) (List.range i)
        rw [List.length_range] at lnf
        rw [ex]
        walk_at "go"
        refine ⟨rfl, ?_⟩
        walk_at "go"
        refine ⟨lf, valV kl (Sum.inl (i : Int)), rfl, DGet.k (k := Sum.inl (i : Int)) hl5, ?_⟩
        rw [l3 i]
        walk_at "go"
        by_cases hiq : i ∈ q
        · refine Sx.dT hiq ?_
          walk_at "go"
          refine ⟨rg, valV kr (Sum.inl (i : Int)), rfl, DGet.k (k := Sum.inl (i : Int)) hr5, ?_⟩
          rw [r3 i]
          walk_at "go"
          by_cases hiy : i ∈ y
          · refine Sx.ndT hiy ?_
            rw [decide_eq_true hiq, decide_eq_true hiy]
            rw [show (if (true && !true) = true then [i] else []) = ([] : List Nat) from rfl, List.append_nil]
            exact ⟨⟨s5, hl5, hr5⟩, hc5⟩
          · refine Sx.ndF hiy ?_
            rw [decide_eq_true hiq, decide_eq_false hiy]
            rw [show (if (true && !false) = true then [i] else []) = ([i] : List Nat) from rfl]
            walk_at "go"
            refine ⟨_, hc5, by rw [List.length_map, sizeLine_eq]; omega, ⟨Sx.same_new s5 (Sx.new_none s4 nc), by rw [upd_ne nlc]; exact hl5, by rw [upd_ne nrc]; exact hr5⟩, ?_⟩
            rw [upd_same, vn_app]
            rfl
        · refine Sx.dF hiq ?_
          walk_at "go"
          rw [decide_eq_false hiq]
          rw [show (if (false && !decide (i ∈ y)) = true then [i] else []) = ([] : List Nat) from rfl, List.append_nil]
          exact ⟨⟨s5, hl5, hr5⟩, hc5⟩
      · rintro H5 ⟨⟨s5, hl5, hr5⟩, hc5⟩
        refine k c H5 s5 (Sx.new_none s4 nc) ?_
        rw [hc5]
        show _ = some (HO.lst (RpX.vn ((List.range Gl.length).filter fun i => decide (i ∈ (Ma.apQ (gOf Gl) R L Gl.length).1) && !decide (i ∈ (Ma.apQ (gOf Gl) R L Gl.length).2))))
        rw [e]
end
end Wk

set_option Elab.async false
set_option linter.all false
set_option maxRecDepth 100000
set_option maxHeartbeats 2000000
namespace Wk
open PySem PySem.Spec PyProof.Rows L2 NdefX SuX Hk
local macro_rules | `(tactic| walk_at "st") => `(tactic| first
  | with_reducible refine Sx.ret ?_
  | with_reducible refine Sx.retN ?_
  | with_reducible refine Sx.seq ?_
  | with_reducible refine Sx.next ?_
  | with_reducible refine Sx.brk ?_
  | with_reducible refine Sx.cont ?_
  | with_reducible refine Sx.drop ?_
  | with_reducible refine Sx.asg ?_
  | with_reducible refine Sx.gname ?_
  | with_reducible refine Sx.ifS ?_
  | with_reducible refine Sx.var ?_
  | with_reducible refine Sx.con ?_
  | with_reducible refine Sx.op ?_
  | with_reducible refine Sx.un ?_
  | with_reducible refine Sx.cb ?_
  | with_reducible refine Sx.cons ?_
  | with_reducible refine Sx.nil ?_
  | with_reducible refine Sx.call ?_
  | with_reducible refine Sx.test ?_
  | with_reducible refine Sx.tb_ ?_
  | with_reducible refine Sx.bl ?_
  | with_reducible refine Sx.and_ ?_
  | with_reducible refine Sx.or_ ?_
  | with_reducible refine Sx.not_ ?_
  | with_reducible refine Sx.andV ?_
  | with_reducible refine Sx.orV ?_
  | with_reducible refine Sx.notV ?_
  | with_reducible refine Sx.ife ?_
  | with_reducible refine Sx.i0 ?_
  | with_reducible refine Sx.iU ?_
  | with_reducible refine Sx.eqI ?_
  | with_reducible refine Sx.eqS ?_
  | with_reducible refine Sx.neI ?_
  | with_reducible refine Sx.neS ?_
  | with_reducible refine Sx.isN' ?_
  | with_reducible refine Sx.chain ?_
  | with_reducible refine Sx.aug ?_
  | with_reducible refine Sx.ipI' ?_
  | with_reducible refine Sx.ifT ?_
  | with_reducible refine Sx.ifF ?_
  | with_reducible refine Sx.ifnF ?_
  | with_reducible refine Sx.ifnT ?_
  | with_reducible refine Sx.tup ?_
  | with_reducible refine Sx.lst ?_
  | with_reducible refine Sx.fld ?_
  | with_reducible refine Sx.sfld ?_
  | with_reducible refine Sx.meth ?_
  | with_reducible refine Sx.app ?_
  | with_reducible refine Sx.gcons ?_
  | with_reducible refine Sx.gnil ?_
  | with_reducible refine Sx.dget ?_
  | with_reducible refine Sx.din ?_
  | with_reducible refine Sx.dnin ?_
  | with_reducible refine Sx.dput ?_
  | with_reducible refine Sx.forS ?_
  | with_reducible refine Sx.ikeys ?_
  | with_reducible refine Sx.ienumT ?_
  | with_reducible refine Sx.scT ?_
  | with_reducible refine Sx.dc2 ?_
  | with_reducible refine Sx.tru ?_
  | with_reducible refine Sx.mv ?_
  | with_reducible refine Sx.cv ?_
  | with_reducible refine Sx.cw ?_
  | with_reducible refine Sx.join ?_
  | with_reducible refine Sx.lc ?_
  | with_reducible refine Sx.istr ?_
  | with_reducible refine Sx.ilist ?_
  | with_reducible refine Sx.itup ?_
  | with_reducible refine Sx.irng1 ?_
  | with_reducible refine Sx.irng2 ?_
  | with_reducible refine Sx.ienum ?_
  | with_reducible refine Sx.izip ?_
  | with_reducible refine Sx.irev ?_
  | with_reducible refine Sx.iitems ?_
  | with_reducible refine Sx.yes ?_
  | with_reducible refine Sx.js_cons ?_
  | with_reducible refine Sx.js_nil ?_
  | with_reducible refine Sx.fmt ?_
  | with_reducible refine Sx.isi_int ?_
  | with_reducible refine Sx.isi_intb ?_
  | with_reducible refine Sx.isi_str ?_)
local macro_rules | `(tactic| walk_at "go") => `(tactic| repeat walk_at "st")
local macro_rules | `(tactic| walk_at "is") => `(tactic| simp only [Option.isSome_some, Option.isSome_none, Bool.not_true, Bool.not_false])
/-! needed, journeys, clash. -/
section
variable {P : Program} {w : World} {K : PySem.W.Frag} {mg : Str → Option Value} {base : Heap}
/-! ### «leads» is an order -/
abbrev GG (rs : List (Addr × Rw)) (r : Nt.Rs) (ds : List Dm) : Nat → List Nat := gOf (linesOf rs r ds)
theorem lines_len (rs : List (Addr × Rw)) (r : Nt.Rs) (ds : List Dm) : (linesOf rs r ds).length = ds.length := List.length_map _
theorem mem_line {rs : List (Addr × Rw)} {r : Nt.Rs} {ds : List Dm} {l x : Nat} : x ∈ GG rs r ds l ↔ ∃ a b, ds[l]? = some a ∧ ds[x]? = some b ∧ leadB rs r a.2 b.2 = true := by
  unfold GG gOf linesOf
  rw [List.getD_eq_getElem?_getD, List.getElem?_map]
  cases hl : ds[l]? with
  | none =>
    constructor
    · intro h
      cases h
    · rintro ⟨a, b, e, _⟩
      cases e
  | some a =>
    show x ∈ lineOf rs r ds a.2 ds.length ↔ _
    unfold lineOf
    rw [List.mem_filter, List.mem_range]
    constructor
    · rintro ⟨h1, h2⟩
      have hx : ds[x]? = some ds[x] := List.getElem?_eq_getElem h1
      rw [hx] at h2
      exact ⟨a, ds[x], rfl, hx, h2⟩
    · rintro ⟨a', b, e, hb, h⟩
      obtain rfl := Option.some.inj e
      refine ⟨(List.getElem?_eq_some_iff.mp hb).1, ?_⟩
      rw [hb]
      exact h
theorem lead_iff {rs : List (Addr × Rw)} {r : Nt.Rs} {a b : Str × Int} : leadB rs r a b = true ↔ Nt.Lead (revT rs) (Nt.rsAft r) a b := decide_eq_true_iff
theorem gr_of {rs : List (Addr × Rw)} {r : Nt.Rs} {ds : List Dm} (ok : RowsOk rs) (rok : Nt.RsOk r) (dok : DmOk rs ds) : Ma.Gr (GG rs r ds) ds.length := by
  have nm : ∀ {l : Nat} {a : Dm}, ds[l]? = some a → a.2.1 ∈ Nt.names (revT rs) := fun {l a} h => by
    rw [names_revT, List.mem_reverse]
    exact dok.pl a (List.mem_of_getElem? h)
  refine ⟨fun l x hx => ?_, fun a b c h1 h2 => ?_, fun l => ((ds[l]?).map fun q => q.2.2).getD 0, fun a b h => ?_⟩
  · obtain ⟨_, b, _, hb, _⟩ := mem_line.mp hx
    exact (List.getElem?_eq_some_iff.mp hb).1
  · obtain ⟨x, y, hx, hy, l1⟩ := mem_line.mp h1
    obtain ⟨y', z, hy', hz, l2⟩ := mem_line.mp h2
    obtain rfl : y = y' := Option.some.inj (hy.symm.trans hy')
    exact mem_line.mpr ⟨x, z, hx, hz, lead_iff.mpr (Nt.lead_trans ok.wf (Nt.rs_gt rok) (nm hx) (nm hy) (nm hz) (lead_iff.mp l1) (lead_iff.mp l2))⟩
  · obtain ⟨x, y, hx, hy, l1⟩ := mem_line.mp h
    show ((ds[a]?).map fun q => q.2.2).getD 0 < ((ds[b]?).map fun q => q.2.2).getD 0
    rw [hx, hy]
    exact Nt.lead_rank ok.wf (Nt.rs_gt rok) (nm hx) (nm hy) (lead_iff.mp l1)
/-- the matching, the journeys, the clash -/
abbrev mR (rs : List (Addr × Rw)) (r : Nt.Rs) (ds : List Dm) : Ma.Mp × Ma.Mp := Ma.mUp (GG rs r ds) ds.length ds.length
def chs (rs : List (Addr × Rw)) (r : Nt.Rs) (ds : List Dm) : List (List Nat) := Ma.chains (mR rs r ds).1 (mR rs r ds).2 ds.length
def apt (rs : List (Addr × Rw)) (r : Nt.Rs) (ds : List Dm) : List Nat := Ma.apart (GG rs r ds) (mR rs r ds).1 (mR rs r ds).2 ds.length
theorem mkS {C : Addr} {sp : Sp} {E : XK} {tA : TA} {σ : L2.St} {H : Hp} {Q : VK} (k : tA σ H fun vs H1 => ∀ x dx, H1 x = none → H1 dx = none → dx ≠ x → sp (.ref x :: vs) (upd (upd H1 dx (.own x)) x (.ins C dx [])) (fun v H2 => v = .non ∧ Q (.ref x) H2) E) : tMake C sp [] E tA σ H Q := by
  have e : (fun vs (H1 : Hp) => ∀ x dx, H1 x = none → H1 dx = none → dx ≠ x → sp (.ref x :: (vs ++ [])) (upd (upd H1 dx (.own x)) x (.ins C dx [])) (fun v H2 => v = .non ∧ Q (.ref x) H2) E) = fun vs H1 => ∀ x dx, H1 x = none → H1 dx = none → dx ≠ x → sp (.ref x :: vs) (upd (upd H1 dx (.own x)) x (.ins C dx [])) (fun v H2 => v = .non ∧ Q (.ref x) H2) E := by
    funext vs H1
    simp only [List.append_nil]
  show tA σ H (fun vs (H1 : Hp) => ∀ x dx, H1 x = none → H1 dx = none → dx ≠ x → sp (.ref x :: (vs ++ [])) (upd (upd H1 dx (.own x)) x (.ins C dx [])) (fun v H2 => v = .non ∧ Q (.ref x) H2) E)
  rw [e]
  exact k
/-- what the three are asked with -/
def Asked (K : PySem.W.Frag) (bad : Addr → Prop) (H : Hp) (n da : Addr) (tp : Bool) (rs : List (Addr × Rw)) (r : Nt.Rs) (ds : List Dm) : Prop := NetAt K bad H n rs r ∧ RowsOk rs ∧ Nt.RsOk r ∧ DmAt H da tp ds ∧ DmOk rs ds
def sp_needed (K : PySem.W.Frag) (bad : Addr → Prop) : Sp := fun vs H Q _ => ∃ (n da : Addr) (tp : Bool) (rs : List (Addr × Rw)) (r : Nt.Rs) (ds : List Dm), vs = [.ref n, .ref da] ∧ Asked K bad H n da tp rs r ds ∧ ∀ H', Same H H' → Q (.int ((chs rs r ds).length : Nat)) H'
def sp_journeys (K : PySem.W.Frag) (bad : Addr → Prop) : Sp := fun vs H Q _ => ∃ (n da : Addr) (tp : Bool) (rs : List (Addr × Rw)) (r : Nt.Rs) (ds : List Dm), vs = [.ref n, .ref da] ∧ Asked K bad H n da tp rs r ds ∧ ∀ c H', Same H H' → NewLs H H' c (chs rs r ds) → Q (.ref c) H'
def sp_clash (K : PySem.W.Frag) (bad : Addr → Prop) : Sp := fun vs H Q _ => ∃ (n da : Addr) (tp : Bool) (rs : List (Addr × Rw)) (r : Nt.Rs) (ds : List Dm), vs = [.ref n, .ref da] ∧ Asked K bad H n da tp rs r ds ∧ ∀ c H', Same H H' → H c = none → H' c = some (.lst (RpX.vn (apt rs r ds))) → Q (.ref c) H'
theorem NewLs.from {H H1 H' : Hp} {c : Addr} {Ls : List (List Nat)} (s : Same H H1) (h : NewLs H1 H' c Ls) : NewLs H H' c Ls := by
  obtain ⟨h1, ls, h2, h3, h4⟩ := h
  exact ⟨Sx.new_none s h1, ls, h2, h3, fun i l g e1 e2 => let ⟨z1, z2⟩ := h4 i l g e1 e2; ⟨Sx.new_none s z1, z2⟩⟩
/-- Matching(lines) made: what stands behind it -/
theorem made {H1 H' : Hp} {x dx C : Addr} {fs : List (Str × V)} (nx : H1 x = none) (nd : H1 dx = none) (st : Stay x (upd (upd H1 dx (.own x)) x (.ins C dx fs)) H') : Same H1 H' := fun b o e => by
  have n1 : b ≠ x := ne_of_none e nx
  refine st _ _ n1 ?_
  rw [upd_ne n1, upd_ne (ne_of_none e nd)]
  exact e
theorem ok_needed (T : Tx K mg) (bad : Addr → Prop) : O_needed P w K mg base 6 (sp_needed K bad) := by
  have G_check_demands : O_check_demands P w K mg base 4 (sp_check K bad) := ok_check T bad
  have G_all_lines : O_all_lines P w K mg base 5 (sp_all_lines K bad) := ok_all_lines T bad
  have G_Matching : O_Matching___init__ P w K mg base 3 (sp_Mat_init K) := ok_Mat_init T
  have G_Matching_size : O_Matching_size P w K mg base 1 (sp_size K) := ok_size T
  refine T.F_needed.ok sc_needed (fun vs H Q E h => ?_) (fun cdv A outer s H vs Q E hr h => ?_)
  · obtain ⟨n, da, tp, rs, r, ds, rfl, _⟩ := h
    rfl
  · obtain ⟨n, da, tp, rs, r, ds, rfl, ⟨N, ok, rok, hd, dok⟩, k⟩ := h
    refine ⟨_, PSs.nox ((pss_cons (ps_expr (pe_call G_check_demands (hr.mono (by decide)) rfl T.g_check_demands T.F_check_demands.kp T.b_check_demands .nil pass0 (pa_cons (pv 0) (pa_cons (pv 1) pa_nil)))) (pss_one (ps_ret (pe_op op_sub (pe_callB (Kw.len K) (by rfl) T.f_len (by decide +kernel) (pa_cons (pv 1) pa_nil)) (pe_meth0 (pe_make T.k_Matching G_Matching (hr.mono (by decide)) rfl T.g_Matching T.b_Matching___init__ .nil pass0 (pa_cons (pe_call G_all_lines (hr.mono (by decide)) rfl T.g_all_lines T.F_all_lines.kp T.b_all_lines .nil pass0 (pa_cons (pv 0) (pa_cons (pv 1) pa_nil))) pa_nil)) T.c_Matching T.m_Matching_size G_Matching_size (hr.mono (by decide)) T.b_Matching_size .nil pass0)))))), ?_⟩
    walk_at "go"
    refine ⟨n, da, tp, rs, r, ds, rfl, N, ok, hd, dok, fun H1 s1 => ?_⟩
    have g := gr_of ok rok dok
    have M := Ma.mt_of g
    have hdl : (dmV ds).length = ds.length := List.length_map _
    walk_at "go"
    refine ⟨da, _, rfl, seqO_or (hd.same s1).1, ?_⟩
    rw [hdl]
    walk_at "go"
    refine mkS ?_
    walk_at "go"
    refine ⟨n, da, tp, rs, r, ds, rfl, N.same s1, ok, rok, hd.same s1, dok, fun p H2 s2 hL => ?_⟩
    walk_at "go"
    intro x dx nx ndx ne
    have hL2 : LinesAt (upd (upd H2 dx (.own x)) x (.ins (gC K "Matching") dx [])) p (linesOf rs r ds) := hL.same (Sx.same_new (Sx.same_new (Sx.same_rfl _) ndx) nx)
    have hn : (linesOf rs r ds).length ≤ 60 := by rw [lines_len]; exact dok.len
    refine ⟨x, p, dx, linesOf rs r ds, rfl, upd_same, hL2, hn, by rw [lines_len]; exact g.lt, fun H3 dr dl st mo hl3 hR3 hL3 => ⟨rfl, ?_⟩⟩
    have s3 := made nx ndx st
    have s03 := Same.trans s1 (Same.trans s2 s3)
    obtain ⟨⟨dx3, hm⟩, hne⟩ := id mo
    rw [lines_len] at hR3 hL3
    refine Sx.methA hm (by kernel_rfl) ?_
    walk_at "go"
    refine ⟨x, p, dr, dl, _, ds.length, rfl, mo, hR3, ?_⟩
    walk_at "go"
    have e : (chs rs r ds).length + (List.range ds.length).countP (fun k => ((mR rs r ds).1 k).isSome) = ds.length := Ma.chains_len M g
    have e2 : ((ds.length : Nat) : Int) - (((List.range ds.length).countP (fun k => ((mR rs r ds).1 k).isSome) : Nat) : Int) = (((chs rs r ds).length : Nat) : Int) := by
      omega
    rw [e2]
    exact k H3 s03
theorem ok_journeys (T : Tx K mg) (bad : Addr → Prop) : O_journeys P w K mg base 6 (sp_journeys K bad) := by
  have G_check_demands : O_check_demands P w K mg base 4 (sp_check K bad) := ok_check T bad
  have G_all_lines : O_all_lines P w K mg base 5 (sp_all_lines K bad) := ok_all_lines T bad
  have G_Matching : O_Matching___init__ P w K mg base 3 (sp_Mat_init K) := ok_Mat_init T
  have G_Matching_chains : O_Matching_chains P w K mg base 1 (sp_chains K) := ok_chains T
  refine T.F_journeys.ok sc_journeys (fun vs H Q E h => ?_) (fun cdv A outer s H vs Q E hr h => ?_)
  · obtain ⟨n, da, tp, rs, r, ds, rfl, _⟩ := h
    rfl
  · obtain ⟨n, da, tp, rs, r, ds, rfl, ⟨N, ok, rok, hd, dok⟩, k⟩ := h
    refine ⟨_, PSs.nox ((pss_cons (ps_expr (pe_call G_check_demands (hr.mono (by decide)) rfl T.g_check_demands T.F_check_demands.kp T.b_check_demands .nil pass0 (pa_cons (pv 0) (pa_cons (pv 1) pa_nil)))) (pss_one (ps_ret (pe_meth0 (pe_make T.k_Matching G_Matching (hr.mono (by decide)) rfl T.g_Matching T.b_Matching___init__ .nil pass0 (pa_cons (pe_call G_all_lines (hr.mono (by decide)) rfl T.g_all_lines T.F_all_lines.kp T.b_all_lines .nil pass0 (pa_cons (pv 0) (pa_cons (pv 1) pa_nil))) pa_nil)) T.c_Matching T.m_Matching_chains G_Matching_chains (hr.mono (by decide)) T.b_Matching_chains .nil pass0))))), ?_⟩
    walk_at "go"
    refine ⟨n, da, tp, rs, r, ds, rfl, N, ok, hd, dok, fun H1 s1 => ?_⟩
    have g := gr_of ok rok dok
    have M := Ma.mt_of g
    have hdl : (dmV ds).length = ds.length := List.length_map _
    walk_at "go"
    refine mkS ?_
    walk_at "go"
    refine ⟨n, da, tp, rs, r, ds, rfl, N.same s1, ok, rok, hd.same s1, dok, fun p H2 s2 hL => ?_⟩
    walk_at "go"
    intro x dx nx ndx ne
    have hL2 : LinesAt (upd (upd H2 dx (.own x)) x (.ins (gC K "Matching") dx [])) p (linesOf rs r ds) := hL.same (Sx.same_new (Sx.same_new (Sx.same_rfl _) ndx) nx)
    have hn : (linesOf rs r ds).length ≤ 60 := by rw [lines_len]; exact dok.len
    refine ⟨x, p, dx, linesOf rs r ds, rfl, upd_same, hL2, hn, by rw [lines_len]; exact g.lt, fun H3 dr dl st mo hl3 hR3 hL3 => ⟨rfl, ?_⟩⟩
    have s3 := made nx ndx st
    have s03 := Same.trans s1 (Same.trans s2 s3)
    obtain ⟨⟨dx3, hm⟩, hne⟩ := id mo
    rw [lines_len] at hR3 hL3
    refine Sx.methA hm (by kernel_rfl) ?_
    walk_at "go"
    refine ⟨x, p, dr, dl, linesOf rs r ds, _, _, rfl, mo, hl3, hn, by rw [lines_len]; exact g, by rw [lines_len]; exact M, by rw [lines_len]; exact hR3, by rw [lines_len]; exact hL3, fun c H4 s4 hc => ?_⟩
    rw [lines_len] at hc
    exact k c H4 (Same.trans s03 s4) (hc.from s03)
theorem ok_clash (T : Tx K mg) (bad : Addr → Prop) : O_clash P w K mg base 6 (sp_clash K bad) := by
  have G_check_demands : O_check_demands P w K mg base 4 (sp_check K bad) := ok_check T bad
  have G_all_lines : O_all_lines P w K mg base 5 (sp_all_lines K bad) := ok_all_lines T bad
  have G_Matching : O_Matching___init__ P w K mg base 3 (sp_Mat_init K) := ok_Mat_init T
  have G_Matching_apart : O_Matching_apart P w K mg base 1 (sp_apart K) := ok_apart T
  refine T.F_clash.ok sc_clash (fun vs H Q E h => ?_) (fun cdv A outer s H vs Q E hr h => ?_)
  · obtain ⟨n, da, tp, rs, r, ds, rfl, _⟩ := h
    rfl
  · obtain ⟨n, da, tp, rs, r, ds, rfl, ⟨N, ok, rok, hd, dok⟩, k⟩ := h
    refine ⟨_, PSs.nox ((pss_cons (ps_expr (pe_call G_check_demands (hr.mono (by decide)) rfl T.g_check_demands T.F_check_demands.kp T.b_check_demands .nil pass0 (pa_cons (pv 0) (pa_cons (pv 1) pa_nil)))) (pss_one (ps_ret (pe_meth0 (pe_make T.k_Matching G_Matching (hr.mono (by decide)) rfl T.g_Matching T.b_Matching___init__ .nil pass0 (pa_cons (pe_call G_all_lines (hr.mono (by decide)) rfl T.g_all_lines T.F_all_lines.kp T.b_all_lines .nil pass0 (pa_cons (pv 0) (pa_cons (pv 1) pa_nil))) pa_nil)) T.c_Matching T.m_Matching_apart G_Matching_apart (hr.mono (by decide)) T.b_Matching_apart .nil pass0))))), ?_⟩
    walk_at "go"
    refine ⟨n, da, tp, rs, r, ds, rfl, N, ok, hd, dok, fun H1 s1 => ?_⟩
    have g := gr_of ok rok dok
    have M := Ma.mt_of g
    have hdl : (dmV ds).length = ds.length := List.length_map _
    walk_at "go"
    refine mkS ?_
    walk_at "go"
    refine ⟨n, da, tp, rs, r, ds, rfl, N.same s1, ok, rok, hd.same s1, dok, fun p H2 s2 hL => ?_⟩
    walk_at "go"
    intro x dx nx ndx ne
    have hL2 : LinesAt (upd (upd H2 dx (.own x)) x (.ins (gC K "Matching") dx [])) p (linesOf rs r ds) := hL.same (Sx.same_new (Sx.same_new (Sx.same_rfl _) ndx) nx)
    have hn : (linesOf rs r ds).length ≤ 60 := by rw [lines_len]; exact dok.len
    refine ⟨x, p, dx, linesOf rs r ds, rfl, upd_same, hL2, hn, by rw [lines_len]; exact g.lt, fun H3 dr dl st mo hl3 hR3 hL3 => ⟨rfl, ?_⟩⟩
    have s3 := made nx ndx st
    have s03 := Same.trans s1 (Same.trans s2 s3)
    obtain ⟨⟨dx3, hm⟩, hne⟩ := id mo
    rw [lines_len] at hR3 hL3
    refine Sx.methA hm (by kernel_rfl) ?_
    walk_at "go"
    refine ⟨x, p, dr, dl, linesOf rs r ds, _, _, rfl, mo, hl3, hn, by rw [lines_len]; exact g, by rw [lines_len]; exact M, by rw [lines_len]; exact hR3, by rw [lines_len]; exact hL3, fun c H4 s4 nc hc => ?_⟩
    rw [lines_len] at hc
    exact k c H4 (Same.trans s03 s4) (Sx.new_none s03 nc) hc
end
end Wk

set_option Elab.async false
set_option linter.all false
set_option maxRecDepth 100000
set_option maxHeartbeats 2000000
namespace Wk
open PySem PySem.Spec PyProof.Rows L2 NdefX SuX Hk
local macro_rules | `(tactic| walk_at "st") => `(tactic| first
  | with_reducible refine Sx.ret ?_
  | with_reducible refine Sx.retN ?_
  | with_reducible refine Sx.seq ?_
  | with_reducible refine Sx.next ?_
  | with_reducible refine Sx.brk ?_
  | with_reducible refine Sx.cont ?_
  | with_reducible refine Sx.drop ?_
  | with_reducible refine Sx.asg ?_
  | with_reducible refine Sx.gname ?_
  | with_reducible refine Sx.ifS ?_
  | with_reducible refine Sx.var ?_
  | with_reducible refine Sx.con ?_
  | with_reducible refine Sx.op ?_
  | with_reducible refine Sx.un ?_
  | with_reducible refine Sx.cb ?_
  | with_reducible refine Sx.cons ?_
  | with_reducible refine Sx.nil ?_
  | with_reducible refine Sx.call ?_
  | with_reducible refine Sx.test ?_
  | with_reducible refine Sx.tb_ ?_
  | with_reducible refine Sx.bl ?_
  | with_reducible refine Sx.and_ ?_
  | with_reducible refine Sx.or_ ?_
  | with_reducible refine Sx.not_ ?_
  | with_reducible refine Sx.andV ?_
  | with_reducible refine Sx.orV ?_
  | with_reducible refine Sx.notV ?_
  | with_reducible refine Sx.ife ?_
  | with_reducible refine Sx.i0 ?_
  | with_reducible refine Sx.iU ?_
  | with_reducible refine Sx.eqI ?_
  | with_reducible refine Sx.eqS ?_
  | with_reducible refine Sx.neI ?_
  | with_reducible refine Sx.neS ?_
  | with_reducible refine Sx.isN' ?_
  | with_reducible refine Sx.chain ?_
  | with_reducible refine Sx.aug ?_
  | with_reducible refine Sx.ipI' ?_
  | with_reducible refine Sx.ifT ?_
  | with_reducible refine Sx.ifF ?_
  | with_reducible refine Sx.ifnF ?_
  | with_reducible refine Sx.ifnT ?_
  | with_reducible refine Sx.tup ?_
  | with_reducible refine Sx.lst ?_
  | with_reducible refine Sx.fld ?_
  | with_reducible refine Sx.sfld ?_
  | with_reducible refine Sx.meth ?_
  | with_reducible refine Sx.app ?_
  | with_reducible refine Sx.gcons ?_
  | with_reducible refine Sx.gnil ?_
  | with_reducible refine Sx.dget ?_
  | with_reducible refine Sx.din ?_
  | with_reducible refine Sx.dnin ?_
  | with_reducible refine Sx.dput ?_
  | with_reducible refine Sx.forS ?_
  | with_reducible refine Sx.ikeys ?_
  | with_reducible refine Sx.ienumT ?_
  | with_reducible refine Sx.scT ?_
  | with_reducible refine Sx.dc2 ?_
  | with_reducible refine Sx.tru ?_
  | with_reducible refine Sx.mv ?_
  | with_reducible refine Sx.cv ?_
  | with_reducible refine Sx.cw ?_
  | with_reducible refine Sx.join ?_
  | with_reducible refine Sx.lc ?_
  | with_reducible refine Sx.istr ?_
  | with_reducible refine Sx.ilist ?_
  | with_reducible refine Sx.itup ?_
  | with_reducible refine Sx.irng1 ?_
  | with_reducible refine Sx.irng2 ?_
  | with_reducible refine Sx.ienum ?_
  | with_reducible refine Sx.izip ?_
  | with_reducible refine Sx.irev ?_
  | with_reducible refine Sx.iitems ?_
  | with_reducible refine Sx.yes ?_
  | with_reducible refine Sx.js_cons ?_
  | with_reducible refine Sx.js_nil ?_
  | with_reducible refine Sx.fmt ?_
  | with_reducible refine Sx.isi_int ?_
  | with_reducible refine Sx.isi_intb ?_
  | with_reducible refine Sx.isi_str ?_)
local macro_rules | `(tactic| walk_at "go") => `(tactic| repeat walk_at "st")
local macro_rules | `(tactic| walk_at "is") => `(tactic| simp only [Option.isSome_some, Option.isSome_none, Bool.not_true, Bool.not_false])
/-! The law's own reckoning: forms. -/
section
variable {P : Program} {w : World} {K : PySem.W.Frag} {mg : Str → Option Value} {base : Heap}
/-! ### forms as the law holds them -/
def LfAt (H : Hp) (a : Addr) : Nt.Fm → Prop
  | .win n => H a = some (.tup [.str "window", .int n])
  | .days bs p => ∃ b, H a = some (.tup [.str "days", .ref b, .int p]) ∧ H b = some (.tup (bs.map V.int))
theorem LfAt.same {H H' : Hp} {a : Addr} (s : Same H H') : ∀ {f : Nt.Fm}, LfAt H a f → LfAt H' a f
  | .win n, h => s _ _ h
  | .days bs p, h => let ⟨b, h1, h2⟩ := h; ⟨b, s _ _ h1, s _ _ h2⟩
def L2At (H : Hp) (a : Addr) (wd : Str) (f g : Nt.Fm) : Prop := ∃ x y, H a = some (.tup [.str wd, .ref x, .ref y]) ∧ LfAt H x f ∧ LfAt H y g
def LrAt (H : Hp) (a : Addr) : Nt.Rs → Prop
  | .pl f => LfAt H a f
  | .lat f g => L2At H a "later" f g
  | .soo f g => L2At H a "sooner" f g
  | .nxt f g => L2At H a "next" f g
theorem L2At.same {H H' : Hp} {a : Addr} {wd : Str} {f g : Nt.Fm} (s : Same H H') (h : L2At H a wd f g) : L2At H' a wd f g := let ⟨x, y, h1, h2, h3⟩ := h; ⟨x, y, s _ _ h1, h2.same s, h3.same s⟩
theorem LrAt.same {H H' : Hp} {a : Addr} (s : Same H H') : ∀ {r : Nt.Rs}, LrAt H a r → LrAt H' a r
  | .pl _, h => LfAt.same s h
  | .lat _ _, h => L2At.same s h
  | .soo _ _, h => L2At.same s h
  | .nxt _ _, h => L2At.same s h
theorem last_sum (bs : List Int) : (bs.drop (bs.length - 1)).sum = Nt.lastB bs := by
  rcases List.eq_nil_or_concat bs with e | ⟨l, x, e⟩
  · rw [e]; rfl
  · rw [e]
    unfold Nt.lastB
    simp [List.getLastD_eq_getLast?]
theorem tsl {r : V → Option Int → Option Int → Hp → VK → Prop} {te : TE} {tl th : TO} {σ : L2.St} {H : Hp} {Q : VK} (k : te σ H fun x H1 => tl σ H1 fun l H2 => th σ H2 fun u H3 => r x l u H3 Q) : tSl r te tl th σ H Q := k
theorem tpart1 {σ : L2.St} {H : Hp} {Q : Option Int → Hp → Prop} (k : Q (some (-1)) H) : tPart (tUn (rU fun i => V.int (-i)) (tC (V.int 1))) σ H Q := ⟨1, rfl, -1, rfl, k⟩
theorem tno {σ : L2.St} {H : Hp} {Q : Option Int → Hp → Prop} (k : Q none H) : tNoPart σ H Q := k
theorem slA1 {H : Hp} {a : Addr} {ns : List Int} {Q : VK} (h : H a = some (.tup (ns.map V.int))) (k : ∀ q H', Same H H' → H' q = some (.tup ((ns.drop (ns.length - 1)).map V.int)) → Q (.ref q) H') : rSlA K (.ref a) (some (-1)) none H Q := by
  have e0 : HT.sIx (ns.map V.int).length 0 (some (-1)) = ns.length - 1 := by
    show (if (-1 : Int) < 0 then ((-1 : Int) + ((ns.map V.int).length : Int)).toNat else min (-1 : Int).toNat (ns.map V.int).length) = _
    rw [if_pos (by decide), List.length_map]
    omega
  refine ⟨a, ns.map V.int, rfl, SqT.of h, fun z => ?_, fun _ p hp => ?_⟩
  · refine k a H (Sx.same_rfl H) ?_
    rw [e0] at z
    rw [z.1]
    exact h
  · refine k p _ (Sx.same_new (Sx.same_rfl H) hp) ?_
    rw [upd_same]
    unfold cutV
    rw [e0, show HT.sIx (ns.map V.int).length (ns.map V.int).length none = (ns.map V.int).length from rfl, List.take_of_length_le (by rw [List.length_drop]; exact Nat.le_refl _), List.map_drop]
/-! ### _law_after -/
def spNo : Sp := fun _ _ _ _ => False
theorem ok_law_after0 (T : Tx K mg) : O__law_after P w K mg base 1 spNo := T.F__law_after.ok sc__law_after (fun vs H Q E h => h.elim) (fun cdv A outer s H vs Q E hr h => h.elim)
def sp_lfa : Sp := fun vs H Q _ => ∃ (a : Addr) (t : Int) (f : Nt.Fm), vs = [.ref a, .int t] ∧ LfAt H a f ∧ Nt.FmOk f ∧ ∀ H', Same H H' → Q (.int (Nt.fmAft f t)) H'
theorem ok_law_after1 (T : Tx K mg) : O__law_after P w K mg base 2 sp_lfa := by
  have G__law_after : O__law_after P w K mg base 1 spNo := ok_law_after0 T
  refine T.F__law_after.ok sc__law_after (fun vs H Q E h => ?_) (fun cdv A outer s H vs Q E hr h => ?_)
  · obtain ⟨a, t, f, rfl, _⟩ := h
    rfl
  · obtain ⟨a, t, f, rfl, h1, ok, k⟩ := h
    refine ⟨_, PSs.nox ((pss_cons (ps_if (pt_cmpR op_eq (pe_ix (Kw.ixT K) (pv 0) (pe_int) (fun _ _ => rfl)) (pe_str) (nomark _)) (pss_one (ps_ret (pe_op op_add (pv 1) (pe_ix (Kw.ixT K) (pv 0) (pe_int) (fun _ _ => rfl))))) pss_nil) (pss_cons (ps_if (pt_cmpR op_eq (pe_ix (Kw.ixT K) (pv 0) (pe_int) (fun _ _ => rfl)) (pe_str) (nomark _)) (pss_cons (ps_for PassesOwn.never rfl (show PI _ _ _ (iTup K _) from pi_tup (pe_ix (Kw.ixT K) (pv 0) (pe_int) (fun _ _ => rfl))) (pg_name (i := 2) sc__law_after.nd rfl (Or.inl rfl)) (pss_one (ps_if (pt_cmpR op_gt (pv 2) (pv 1) (nomark _)) (pss_one (ps_ret (pv 2))) pss_nil))) (pss_cons (ps_set (i := 3) sc__law_after.nd rfl (Or.inl rfl) (pe_callB (Kw.sumT K rfl) (by rfl) T.f_sum (by decide +kernel) (pa_cons (pe_slice (Kw.slA K) (pe_ix (Kw.ixT K) (pv 0) (pe_int) (fun _ _ => rfl)) (po_some (pe_un un_neg (pe_int))) po_none) pa_nil))) (pss_one (ps_ret (pe_op op_add (pv 3) (pe_op op_mul (pe_op op_add (pe_op op_fdivN (pe_op op_sub (pv 1) (pv 3)) (pe_ix (Kw.ixT K) (pv 0) (pe_int) (fun _ _ => rfl))) (pe_int)) (pe_ix (Kw.ixT K) (pv 0) (pe_int) (fun _ _ => rfl)))))))) pss_nil) (pss_cons (ps_set (i := 4) sc__law_after.nd rfl (Or.inl rfl) (pe_call G__law_after (hr.mono (by decide)) rfl T.g__law_after T.F__law_after.kp T.b__law_after .nil pass0 (pa_cons (pe_ix (Kw.ixT K) (pv 0) (pe_int) (fun _ _ => rfl)) (pa_cons (pv 1) pa_nil)))) (pss_cons (ps_if (pt_cmpR op_eq (pe_ix (Kw.ixT K) (pv 0) (pe_int) (fun _ _ => rfl)) (pe_str) (nomark _)) (pss_one (ps_ret (pe_call G__law_after (hr.mono (by decide)) rfl T.g__law_after T.F__law_after.kp T.b__law_after .nil pass0 (pa_cons (pe_ix (Kw.ixT K) (pv 0) (pe_int) (fun _ _ => rfl)) (pa_cons (pv 4) pa_nil))))) pss_nil) (pss_cons (ps_if (pt_cmpR op_eq (pe_ix (Kw.ixT K) (pv 0) (pe_int) (fun _ _ => rfl)) (pe_str) (nomark _)) (pss_one (ps_ret (pe_callB (call_max2 rfl) (by rfl) T.f_max (by decide +kernel) (pa_cons (pv 4) (pa_cons (pe_call G__law_after (hr.mono (by decide)) rfl T.g__law_after T.F__law_after.kp T.b__law_after .nil pass0 (pa_cons (pe_ix (Kw.ixT K) (pv 0) (pe_int) (fun _ _ => rfl)) (pa_cons (pv 1) pa_nil))) pa_nil))))) pss_nil) (pss_one (ps_ret (pe_callB (call_min2 rfl) (by rfl) T.f_min (by decide +kernel) (pa_cons (pv 4) (pa_cons (pe_call G__law_after (hr.mono (by decide)) rfl T.g__law_after T.F__law_after.kp T.b__law_after .nil pass0 (pa_cons (pe_ix (Kw.ixT K) (pv 0) (pe_int) (fun _ _ => rfl)) (pa_cons (pv 1) pa_nil))) pa_nil))))))))))), ?_⟩
    cases f with
    | win n =>
      walk_at "go"
      refine Sx.ixT (SqT.of h1) rfl ?_
      walk_at "go"
      refine Sx.dT rfl ?_
      walk_at "go"
      refine Sx.ixT (SqT.of h1) rfl ?_
      walk_at "go"
      exact k H (Sx.same_rfl H)
    | days bs p =>
      obtain ⟨b, h1, h2⟩ := h1
      obtain ⟨o1, o2, o3, o4⟩ := ok
      walk_at "go"
      refine Sx.ixT (SqT.of h1) rfl ?_
      walk_at "go"
      refine Sx.dF (by decide) ?_
      walk_at "go"
      refine Sx.ixT (SqT.of h1) rfl ?_
      walk_at "go"
      refine Sx.dT rfl ?_
      walk_at "go"
      refine Sx.ixT (SqT.of h1) rfl ?_
      refine ⟨b, rfl, ⟨_, SqT.of h2⟩, VrX.for_J (n := bs.length) (fun i σ H' => H' = H ∧ ∃ v3 v4 v5, σ = [some (.ref a), some (.int t), v3, v4, v5] ∧ (bs.take i).find? (fun c => decide (t < c)) = none) ⟨rfl, _, _, _, rfl, rfl⟩
        (fun _ _ h => ⟨_, SqT.of (h.1 ▸ h2), by simp⟩) (fun i _ _ hi h => ⟨_, V.int bs[i], SqT.of (h.1 ▸ h2), by simp [hi]⟩) ?_ ?_⟩
      · rintro i y σ H1 H2 hi ⟨rfl, v3, v4, v5, rfl, hn⟩ ⟨rfl, hy⟩
        have hy2 := hy _ (SqT.of h2)
        rw [List.getElem?_map, List.getElem?_eq_getElem hi] at hy2
        obtain rfl : V.int bs[i] = y := Option.some.inj hy2
        walk_at "go"
        refine Sx.ifd (fun c2 => ?_) (fun c2 => ?_)
        · walk_at "go"
          have e : bs.find? (fun c => decide (t < c)) = some bs[i] := find_at hn (List.getElem?_eq_getElem hi) (decide_eq_true c2)
          have e2 : Nt.fmAft (.days bs p) t = bs[i] := by
            show (match bs.find? (fun c => decide (t < c)) with | some b => b | none => Nt.lastB bs + ((t - Nt.lastB bs) / p + 1) * p) = _
            rw [e]
          rw [e2] at k
          exact k _ (Sx.same_rfl _)
        · walk_at "go"
          refine ⟨rfl, _, _, _, rfl, ?_⟩
          rw [List.take_succ, List.find?_append, hn, List.getElem?_eq_getElem hi]
          simp [c2]
      · rintro σ H' ⟨rfl, v3, v4, v5, rfl, hn⟩
        rw [List.take_length] at hn
        walk_at "go"
        refine tsl ?_
        refine Sx.op ?_
        walk_at "go"
        refine Sx.ixT (SqT.of h1) rfl ?_
        refine tpart1 ?_
        refine tno ?_
        refine slA1 h2 fun q H1 s1 hq => ?_
        walk_at "go"
        refine ⟨q, bs.drop (bs.length - 1), rfl, SqT.of hq, ?_⟩
        rw [last_sum]
        have hp1 : CDivN (t - Nt.lastB bs) p := ⟨by omega, by omega⟩
        have hp2 : CMul ((t - Nt.lastB bs).fdiv p + 1) p := .inr ⟨by omega, by omega⟩
        have g1 := s1 _ _ h1
        walk_at "go"
        refine Sx.ixT (SqT.of g1) rfl ?_
        refine Sx.iC hp1 ?_
        walk_at "go"
        refine Sx.ixT (SqT.of g1) rfl ?_
        refine Sx.iC hp2 ?_
        walk_at "go"
        have e : Nt.fmAft (.days bs p) t = Nt.lastB bs + ((t - Nt.lastB bs).fdiv p + 1) * p := by
          show (match bs.find? (fun c => decide (t < c)) with | some b => b | none => Nt.lastB bs + ((t - Nt.lastB bs) / p + 1) * p) = _
          rw [hn, Int.fdiv_eq_ediv_of_nonneg _ (by omega)]
        rw [← e]
        exact k H1 s1
theorem fn_either {k : Nat} {f : Addr} {fd : FuncData} {ps : List Str} {sp1 sp2 sp : Sp} (F : FnOk P w K mg base CX0 k f fd ps sp1) (G : FnOk P w K mg base CX0 k f fd ps sp2) (h : ∀ vs H Q E, sp vs H Q E → sp1 vs H Q E ∨ sp2 vs H Q E) : FnOk P w K mg base CX0 k f fd ps sp :=
  ⟨fun vs H Q E q => (h _ _ _ _ q).elim (F.len vs H Q E) (G.len vs H Q E), fun A outer s H args us vs Q E hr he hb hv hs => (h _ _ _ _ hs).elim (F.run A outer s H args us vs Q E hr he hb hv) (G.run A outer s H args us vs Q E hr he hb hv)⟩
def sp_lra : Sp := fun vs H Q _ => ∃ (a : Addr) (t : Int) (r : Nt.Rs), vs = [.ref a, .int t] ∧ LrAt H a r ∧ Nt.RsOk r ∧ ∀ H', Same H H' → Q (.int (Nt.rsAft r t)) H'
theorem ok_law_after (T : Tx K mg) : O__law_after P w K mg base 3 sp_lra := by
  have G1 : O__law_after P w K mg base 2 sp_lfa := ok_law_after1 T
  have two : O__law_after P w K mg base 3 (fun vs H Q E => ∃ (a : Addr) (t : Int) (r : Nt.Rs), vs = [.ref a, .int t] ∧ LrAt H a r ∧ Nt.RsOk r ∧ (∀ f, r ≠ .pl f) ∧ ∀ H', Same H H' → Q (.int (Nt.rsAft r t)) H') := by
    have G__law_after := G1
    refine T.F__law_after.ok sc__law_after (fun vs H Q E h => ?_) (fun cdv A outer s H vs Q E hr h => ?_)
    · obtain ⟨a, t, f, rfl, _⟩ := h
      rfl
    · obtain ⟨a, t, r, rfl, h1, ok, np, k⟩ := h
      refine ⟨_, PSs.nox ((pss_cons (ps_if (pt_cmpR op_eq (pe_ix (Kw.ixT K) (pv 0) (pe_int) (fun _ _ => rfl)) (pe_str) (nomark _)) (pss_one (ps_ret (pe_op op_add (pv 1) (pe_ix (Kw.ixT K) (pv 0) (pe_int) (fun _ _ => rfl))))) pss_nil) (pss_cons (ps_if (pt_cmpR op_eq (pe_ix (Kw.ixT K) (pv 0) (pe_int) (fun _ _ => rfl)) (pe_str) (nomark _)) (pss_cons (ps_for PassesOwn.never rfl (show PI _ _ _ (iTup K _) from pi_tup (pe_ix (Kw.ixT K) (pv 0) (pe_int) (fun _ _ => rfl))) (pg_name (i := 2) sc__law_after.nd rfl (Or.inl rfl)) (pss_one (ps_if (pt_cmpR op_gt (pv 2) (pv 1) (nomark _)) (pss_one (ps_ret (pv 2))) pss_nil))) (pss_cons (ps_set (i := 3) sc__law_after.nd rfl (Or.inl rfl) (pe_callB (Kw.sumT K rfl) (by rfl) T.f_sum (by decide +kernel) (pa_cons (pe_slice (Kw.slA K) (pe_ix (Kw.ixT K) (pv 0) (pe_int) (fun _ _ => rfl)) (po_some (pe_un un_neg (pe_int))) po_none) pa_nil))) (pss_one (ps_ret (pe_op op_add (pv 3) (pe_op op_mul (pe_op op_add (pe_op op_fdivN (pe_op op_sub (pv 1) (pv 3)) (pe_ix (Kw.ixT K) (pv 0) (pe_int) (fun _ _ => rfl))) (pe_int)) (pe_ix (Kw.ixT K) (pv 0) (pe_int) (fun _ _ => rfl)))))))) pss_nil) (pss_cons (ps_set (i := 4) sc__law_after.nd rfl (Or.inl rfl) (pe_call G__law_after (hr.mono (by decide)) rfl T.g__law_after T.F__law_after.kp T.b__law_after .nil pass0 (pa_cons (pe_ix (Kw.ixT K) (pv 0) (pe_int) (fun _ _ => rfl)) (pa_cons (pv 1) pa_nil)))) (pss_cons (ps_if (pt_cmpR op_eq (pe_ix (Kw.ixT K) (pv 0) (pe_int) (fun _ _ => rfl)) (pe_str) (nomark _)) (pss_one (ps_ret (pe_call G__law_after (hr.mono (by decide)) rfl T.g__law_after T.F__law_after.kp T.b__law_after .nil pass0 (pa_cons (pe_ix (Kw.ixT K) (pv 0) (pe_int) (fun _ _ => rfl)) (pa_cons (pv 4) pa_nil))))) pss_nil) (pss_cons (ps_if (pt_cmpR op_eq (pe_ix (Kw.ixT K) (pv 0) (pe_int) (fun _ _ => rfl)) (pe_str) (nomark _)) (pss_one (ps_ret (pe_callB (call_max2 rfl) (by rfl) T.f_max (by decide +kernel) (pa_cons (pv 4) (pa_cons (pe_call G__law_after (hr.mono (by decide)) rfl T.g__law_after T.F__law_after.kp T.b__law_after .nil pass0 (pa_cons (pe_ix (Kw.ixT K) (pv 0) (pe_int) (fun _ _ => rfl)) (pa_cons (pv 1) pa_nil))) pa_nil))))) pss_nil) (pss_one (ps_ret (pe_callB (call_min2 rfl) (by rfl) T.f_min (by decide +kernel) (pa_cons (pv 4) (pa_cons (pe_call G__law_after (hr.mono (by decide)) rfl T.g__law_after T.F__law_after.kp T.b__law_after .nil pass0 (pa_cons (pe_ix (Kw.ixT K) (pv 0) (pe_int) (fun _ _ => rfl)) (pa_cons (pv 1) pa_nil))) pa_nil))))))))))), ?_⟩
      cases r with
      | pl f => exact absurd rfl (np f)
      | lat f g =>
        obtain ⟨x, y, h1, h2, h3⟩ := h1
        obtain ⟨o1, o2⟩ := ok
        walk_at "go"
        refine Sx.ixT (SqT.of h1) rfl ?_
        walk_at "go"
        refine Sx.dF (by decide) ?_
        walk_at "go"
        refine Sx.ixT (SqT.of h1) rfl ?_
        walk_at "go"
        refine Sx.dF (by decide) ?_
        walk_at "go"
        refine Sx.ixT (SqT.of h1) rfl ?_
        walk_at "go"
        refine ⟨x, t, f, rfl, h2, o1, fun H1 s1 => ?_⟩
        walk_at "go"
        have g1 := s1 _ _ h1
        refine Sx.ixT (SqT.of g1) rfl ?_
        walk_at "go"
        refine Sx.dF (by decide) ?_
        walk_at "go"
        refine Sx.ixT (SqT.of g1) rfl ?_
        walk_at "go"
        refine Sx.dT rfl ?_
        walk_at "go"
        refine Sx.ixT (SqT.of g1) rfl ?_
        walk_at "go"
        refine ⟨y, t, g, rfl, h3.same s1, o2, fun H2 s2 => ?_⟩
        walk_at "go"
        exact ⟨_, _, rfl, k H2 (Sx.same_tr s1 s2)⟩
      | soo f g =>
        obtain ⟨x, y, h1, h2, h3⟩ := h1
        obtain ⟨o1, o2⟩ := ok
        walk_at "go"
        refine Sx.ixT (SqT.of h1) rfl ?_
        walk_at "go"
        refine Sx.dF (by decide) ?_
        walk_at "go"
        refine Sx.ixT (SqT.of h1) rfl ?_
        walk_at "go"
        refine Sx.dF (by decide) ?_
        walk_at "go"
        refine Sx.ixT (SqT.of h1) rfl ?_
        walk_at "go"
        refine ⟨x, t, f, rfl, h2, o1, fun H1 s1 => ?_⟩
        walk_at "go"
        have g1 := s1 _ _ h1
        refine Sx.ixT (SqT.of g1) rfl ?_
        walk_at "go"
        refine Sx.dF (by decide) ?_
        walk_at "go"
        refine Sx.ixT (SqT.of g1) rfl ?_
        walk_at "go"
        refine Sx.dF (by decide) ?_
        walk_at "go"
        refine Sx.ixT (SqT.of g1) rfl ?_
        walk_at "go"
        refine ⟨y, t, g, rfl, h3.same s1, o2, fun H2 s2 => ?_⟩
        walk_at "go"
        exact ⟨_, _, rfl, k H2 (Sx.same_tr s1 s2)⟩
      | nxt f g =>
        obtain ⟨x, y, h1, h2, h3⟩ := h1
        obtain ⟨o1, o2⟩ := ok
        walk_at "go"
        refine Sx.ixT (SqT.of h1) rfl ?_
        walk_at "go"
        refine Sx.dF (by decide) ?_
        walk_at "go"
        refine Sx.ixT (SqT.of h1) rfl ?_
        walk_at "go"
        refine Sx.dF (by decide) ?_
        walk_at "go"
        refine Sx.ixT (SqT.of h1) rfl ?_
        walk_at "go"
        refine ⟨x, t, f, rfl, h2, o1, fun H1 s1 => ?_⟩
        walk_at "go"
        have g1 := s1 _ _ h1
        refine Sx.ixT (SqT.of g1) rfl ?_
        walk_at "go"
        refine Sx.dT rfl ?_
        walk_at "go"
        refine Sx.ixT (SqT.of g1) rfl ?_
        walk_at "go"
        exact ⟨y, _, g, rfl, h3.same s1, o2, fun H2 s2 => k H2 (Sx.same_tr s1 s2)⟩
  refine fn_either (G1.mono (by decide)) two fun vs H Q E h => ?_
  obtain ⟨a, t, r, e, h1, ok, k⟩ := h
  cases r with
  | pl f => exact .inl ⟨a, t, f, e, h1, ok, k⟩
  | lat f g => exact .inr ⟨a, t, _, e, h1, ok, fun _ z => (by cases z), k⟩
  | soo f g => exact .inr ⟨a, t, _, e, h1, ok, fun _ z => (by cases z), k⟩
  | nxt f g => exact .inr ⟨a, t, _, e, h1, ok, fun _ z => (by cases z), k⟩
end
end Wk

set_option Elab.async false
set_option linter.all false
set_option maxRecDepth 100000
set_option maxHeartbeats 2000000
namespace Wk
open PySem PySem.Spec PyProof.Rows L2 NdefX SuX Hk
local macro_rules | `(tactic| walk_at "st") => `(tactic| first
  | with_reducible refine Sx.ret ?_
  | with_reducible refine Sx.retN ?_
  | with_reducible refine Sx.seq ?_
  | with_reducible refine Sx.next ?_
  | with_reducible refine Sx.brk ?_
  | with_reducible refine Sx.cont ?_
  | with_reducible refine Sx.drop ?_
  | with_reducible refine Sx.asg ?_
  | with_reducible refine Sx.gname ?_
  | with_reducible refine Sx.ifS ?_
  | with_reducible refine Sx.var ?_
  | with_reducible refine Sx.con ?_
  | with_reducible refine Sx.op ?_
  | with_reducible refine Sx.un ?_
  | with_reducible refine Sx.cb ?_
  | with_reducible refine Sx.cons ?_
  | with_reducible refine Sx.nil ?_
  | with_reducible refine Sx.call ?_
  | with_reducible refine Sx.test ?_
  | with_reducible refine Sx.tb_ ?_
  | with_reducible refine Sx.bl ?_
  | with_reducible refine Sx.and_ ?_
  | with_reducible refine Sx.or_ ?_
  | with_reducible refine Sx.not_ ?_
  | with_reducible refine Sx.andV ?_
  | with_reducible refine Sx.orV ?_
  | with_reducible refine Sx.notV ?_
  | with_reducible refine Sx.ife ?_
  | with_reducible refine Sx.i0 ?_
  | with_reducible refine Sx.iU ?_
  | with_reducible refine Sx.eqI ?_
  | with_reducible refine Sx.eqS ?_
  | with_reducible refine Sx.neI ?_
  | with_reducible refine Sx.neS ?_
  | with_reducible refine Sx.isN' ?_
  | with_reducible refine Sx.chain ?_
  | with_reducible refine Sx.aug ?_
  | with_reducible refine Sx.ipI' ?_
  | with_reducible refine Sx.ifT ?_
  | with_reducible refine Sx.ifF ?_
  | with_reducible refine Sx.ifnF ?_
  | with_reducible refine Sx.ifnT ?_
  | with_reducible refine Sx.tup ?_
  | with_reducible refine Sx.lst ?_
  | with_reducible refine Sx.fld ?_
  | with_reducible refine Sx.sfld ?_
  | with_reducible refine Sx.meth ?_
  | with_reducible refine Sx.app ?_
  | with_reducible refine Sx.gcons ?_
  | with_reducible refine Sx.gnil ?_
  | with_reducible refine Sx.dget ?_
  | with_reducible refine Sx.din ?_
  | with_reducible refine Sx.dnin ?_
  | with_reducible refine Sx.dput ?_
  | with_reducible refine Sx.forS ?_
  | with_reducible refine Sx.ikeys ?_
  | with_reducible refine Sx.ienumT ?_
  | with_reducible refine Sx.scT ?_
  | with_reducible refine Sx.dc2 ?_
  | with_reducible refine Sx.tru ?_
  | with_reducible refine Sx.mv ?_
  | with_reducible refine Sx.cv ?_
  | with_reducible refine Sx.cw ?_
  | with_reducible refine Sx.join ?_
  | with_reducible refine Sx.lc ?_
  | with_reducible refine Sx.istr ?_
  | with_reducible refine Sx.ilist ?_
  | with_reducible refine Sx.itup ?_
  | with_reducible refine Sx.irng1 ?_
  | with_reducible refine Sx.irng2 ?_
  | with_reducible refine Sx.ienum ?_
  | with_reducible refine Sx.izip ?_
  | with_reducible refine Sx.irev ?_
  | with_reducible refine Sx.iitems ?_
  | with_reducible refine Sx.yes ?_
  | with_reducible refine Sx.js_cons ?_
  | with_reducible refine Sx.js_nil ?_
  | with_reducible refine Sx.fmt ?_
  | with_reducible refine Sx.isi_int ?_
  | with_reducible refine Sx.isi_intb ?_
  | with_reducible refine Sx.isi_str ?_)
local macro_rules | `(tactic| walk_at "go") => `(tactic| repeat walk_at "st")
local macro_rules | `(tactic| walk_at "is") => `(tactic| simp only [Option.isSome_some, Option.isSome_none, Bool.not_true, Bool.not_false])
/-! The law's own reckoning: rows. -/
section
variable {P : Program} {w : World} {K : PySem.W.Frag} {mg : Str → Option Value} {base : Heap}
/-- the list of rows, as the law holds it -/
def RL (H : Hp) (a : Addr) (rs : List (Addr × Rw)) : Prop := H a = some (.lst (rs.map fun q => V.ref q.1)) ∧ RowsAt H rs
theorem RL.same {H H' : Hp} {a : Addr} {rs : List (Addr × Rw)} (s : Same H H') (h : RL H a rs) : RL H' a rs := ⟨s _ _ h.1, h.2.same s⟩
/-! ### _law_errors -/
def ErAt (H : Hp) (d : Addr) (rs : List (Addr × Rw)) : Prop := ∃ kvs, H d = some (.dK kvs) ∧ ∀ x ∈ rwN rs, valV kvs (Sum.inr x) = some (.int (Nt.erOf (revT rs) x))
def sp_lerr : Sp := fun vs H Q _ => ∃ (a : Addr) (rs : List (Addr × Rw)), vs = [.ref a] ∧ RL H a rs ∧ RowsOk rs ∧ ∀ d H', Same H H' → ErAt H' d rs → Q (.ref d) H'
theorem er_row {rs : List (Addr × Rw)} (W : Nt.WF (revT rs)) {q : Addr × Rw} (h : q ∈ rs) : Nt.erOf (revT rs) q.2.name = q.2.er ∧ Nt.deOf (revT rs) q.2.name = q.2.de := W.er_of q.2 (List.mem_reverse.mpr (List.mem_map.mpr ⟨q, h, rfl⟩))
theorem ok_law_errors (T : Tx K mg) : O__law_errors P w K mg base 1 sp_lerr := by
  refine T.F__law_errors.ok sc__law_errors (fun vs H Q E h => ?_) (fun cdv A outer s H vs Q E hr h => ?_)
  · obtain ⟨a, rs, rfl, _⟩ := h
    rfl
  · obtain ⟨a, rs, rfl, ⟨h1, h2⟩, ok, k⟩ := h
    refine ⟨_, PSs.nox ((pss_cons (ps_set (i := 1) sc__law_errors.nd rfl (Or.inl rfl) (pe_dnewK)) (pss_cons (ps_for PassesOwn.never rfl (show PI _ _ _ (iList K _) from pi_list (pv 0)) (pg_name (i := 2) sc__law_errors.nd rfl (Or.inl rfl)) (pss_one (ps_dput (hu_of hr) (pv 1) (pe_ix (Kw.ixT K) (pv 2) (pe_int) (fun _ _ => rfl)) (pe_ix (Kw.ixT K) (pv 2) (pe_int) (fun _ _ => rfl)) rfl))) (pss_one (ps_ret (pv 1)))))), ?_⟩
    walk_at "go"
    intro d nd
    walk_at "go"
    have nad : a ≠ d := ne_of_none h1 nd
    refine ⟨a, rfl, ⟨_, SqL.of (show (upd H d (.dK [])) a = _ by rw [upd_ne nad]; exact h1)⟩, VrX.for_J (n := rs.length) (fun i σ H' => Same H H' ∧ (∃ kvs, H' d = some (.dK kvs) ∧ kvs.length ≤ i ∧ ∀ x ∈ rwN (rs.take i), valV kvs (Sum.inr x) = some (.int (Nt.erOf (revT rs) x))) ∧ ∃ v, σ = [some (.ref a), some (.ref d), v])
      ⟨Sx.same_new (Sx.same_rfl _) nd, ⟨[], upd_same, Nat.le_refl _, fun x hx => by cases hx⟩, _, rfl⟩
      (fun _ _ h => ⟨_, SqL.of (h.1 _ _ h1), by simp⟩) (fun i _ _ hi h => ⟨_, V.ref rs[i].1, SqL.of (h.1 _ _ h1), by simp [hi]⟩) ?_ ?_⟩
    · rintro i y σ H1 H2 hi ⟨s1, ⟨kvs, d1, d2, d3⟩, v, rfl⟩ ⟨rfl, hy⟩
      have hy2 := hy _ (SqL.of (s1 _ _ h1))
      rw [List.getElem?_map, List.getElem?_eq_getElem hi] at hy2
      obtain rfl : V.ref rs[i].1 = y := Option.some.inj hy2
      have hm : rs[i] ∈ rs := List.getElem_mem hi
      have hq := s1 _ _ (h2 _ hm)
      obtain ⟨e1, _⟩ := er_row ok.wf hm
      have hlen := ok.len
      walk_at "go"
      refine Sx.ixT (SqT.of hq) rfl ?_
      walk_at "go"
      refine Sx.ixT (SqT.of hq) rfl ?_
      refine Sx.dpS d1 (by omega) ?_
      refine ⟨fun b o e => ?_, ⟨_, upd_same, Nat.le_trans (length_putK _ _ _) (Nat.succ_le_succ d2), fun x hx => ?_⟩, _, rfl⟩
      · rw [upd_ne (ne_of_none e nd)]
        exact s1 _ _ e
      · rw [valV_put]
        by_cases hx2 : x = rs[i].2.name
        · rw [if_pos (by rw [hx2]), hx2, e1]
        · rw [if_neg (fun z => hx2 (Sum.inr.inj z))]
          refine d3 x ?_
          rw [List.take_succ, List.getElem?_eq_getElem hi, rwN, List.map_append, List.mem_append] at hx
          rcases hx with hx | hx
          · exact hx
          · exact absurd (List.mem_singleton.mp hx) hx2
    · rintro σ H1 ⟨s1, ⟨kvs, d1, d2, d3⟩, v, rfl⟩
      rw [List.take_length] at d3
      walk_at "go"
      exact k d H1 s1 ⟨kvs, d1, d3⟩
/-! ### _law_row -/
def sp_lrow : Sp := fun vs H Q _ => ∃ (a : Addr) (rs : List (Addr × Rw)) (x : Str), vs = [.ref a, .str x] ∧ RL H a rs ∧ rs.length ≤ 12 ∧ x ∈ rwN rs ∧ ∀ q ∈ rs, q.2.name = x → ∀ H', Same H H' → Q (.ref q.1) H'
theorem ok_law_row (T : Tx K mg) : O__law_row P w K mg base 1 sp_lrow := by
  refine T.F__law_row.ok sc__law_row (fun vs H Q E h => ?_) (fun cdv A outer s H vs Q E hr h => ?_)
  · obtain ⟨a, rs, x, rfl, _⟩ := h
    rfl
  · obtain ⟨a, rs, x, rfl, ⟨h1, h2⟩, hlen, hx, k⟩ := h
    refine ⟨_, PSs.nox ((pss_one (ps_ret (pe_ix (Kw.ixL K) (pe_lc (own := [("_law_row_here", 2)]) (g := gName 2) rfl sc__law_row.nd (show PI _ _ _ (iList K _) from pi_list (pv 0)) (blkOk_by (own := [("_law_row_here", 2)]) (N := N__law_row) (sc := defScope sd__law_row) (by decide +kernel)) (fun _ _ _ _ _ => (pg_name (i := 2) sc__law_row.nd rfl (Or.inl rfl))) (fun _ _ _ _ _ => (pts_one (pt_cmpR op_eq (pe_ix (Kw.ixT K) (pv 2) (pe_int) (fun _ _ => rfl)) (pv 1) (nomark _)))) (fun _ _ _ _ _ => (pv 2))) (pe_int) (fun _ _ => rfl))))), ?_⟩
    walk_at "go"
    refine ⟨a, rfl, ⟨_, SqL.of h1⟩, fun D nD => ?_⟩
    refine VrX.lc_J (n := rs.length) (fun i H' => Same H H' ∧ H' D = some (.lst (((rs.take i).filter fun q => decide (q.2.name = x)).map fun q => V.ref q.1))) ⟨Sx.same_new (Sx.same_rfl _) nD, upd_same⟩
      (fun _ h => ⟨_, SqL.of (h.1 _ _ h1), by simp⟩) (fun i _ hi h => ⟨_, V.ref rs[i].1, SqL.of (h.1 _ _ h1), by simp [hi]⟩) ?_ ?_
    · rintro i y H1 H2 hi ⟨s1, hD⟩ ⟨rfl, hy⟩
      have hy2 := hy _ (SqL.of (s1 _ _ h1))
      rw [List.getElem?_map, List.getElem?_eq_getElem hi] at hy2
      obtain rfl : V.ref rs[i].1 = y := Option.some.inj hy2
      have hq := s1 _ _ (h2 _ (List.getElem_mem hi))
      have ex : ((rs.take (i + 1)).filter fun q => decide (q.2.name = x)) = ((rs.take i).filter fun q => decide (q.2.name = x)) ++ (if decide (rs[i].2.name = x) = true then [rs[i]] else []) := by
        rw [List.take_succ, List.filter_append, List.getElem?_eq_getElem hi]
        show _ ++ List.filter _ [rs[i]] = _
        rw [List.filter_cons]
        rfl
      rw [ex]
      walk_at "go"
      refine ⟨rfl, ?_⟩
      walk_at "go"
      refine Sx.ixT (SqT.of hq) rfl ?_
      walk_at "go"
      by_cases hc : rs[i].2.name = x
      · refine Sx.dT hc ?_
        rw [if_pos (decide_eq_true hc)]
        walk_at "go"
        have := List.length_filter_le (fun q : Addr × Rw => decide (q.2.name = x)) (rs.take i)
        rw [List.length_take] at this
        refine ⟨_, hD, by rw [List.length_map, sizeLine_eq]; omega, Sx.same_new s1 nD, ?_⟩
        rw [upd_same, List.map_append]
        rfl
      · refine Sx.dF hc ?_
        rw [if_neg (fun z => hc (of_decide_eq_true z)), List.append_nil]
        exact ⟨s1, hD⟩
    · rintro H1 ⟨s1, hD⟩
      rw [List.take_length] at hD
      cases hf : rs.filter (fun q => decide (q.2.name = x)) with
      | nil =>
        obtain ⟨q, hq, e⟩ := List.mem_map.mp hx
        have : q ∈ rs.filter (fun q => decide (q.2.name = x)) := List.mem_filter.mpr ⟨hq, decide_eq_true e⟩
        rw [hf] at this
        cases this
      | cons q l =>
        rw [hf] at hD
        have hm : q ∈ rs.filter (fun q => decide (q.2.name = x)) := by rw [hf]; exact List.mem_cons_self
        obtain ⟨m1, m2⟩ := List.mem_filter.mp hm
        walk_at "go"
        refine Sx.ixL (SqL.of hD) (v := .ref q.1) (atI_nat (j := 0) rfl) ?_
        exact k q m1 (of_decide_eq_true m2) H1 s1
end
end Wk

set_option Elab.async false
set_option linter.all false
set_option maxRecDepth 100000
set_option maxHeartbeats 2000000
namespace Wk
open PySem PySem.Spec PyProof.Rows L2 NdefX SuX Hk
local macro_rules | `(tactic| walk_at "st") => `(tactic| first
  | with_reducible refine Sx.ret ?_
  | with_reducible refine Sx.retN ?_
  | with_reducible refine Sx.seq ?_
  | with_reducible refine Sx.next ?_
  | with_reducible refine Sx.brk ?_
  | with_reducible refine Sx.cont ?_
  | with_reducible refine Sx.drop ?_
  | with_reducible refine Sx.asg ?_
  | with_reducible refine Sx.gname ?_
  | with_reducible refine Sx.ifS ?_
  | with_reducible refine Sx.var ?_
  | with_reducible refine Sx.con ?_
  | with_reducible refine Sx.op ?_
  | with_reducible refine Sx.un ?_
  | with_reducible refine Sx.cb ?_
  | with_reducible refine Sx.cons ?_
  | with_reducible refine Sx.nil ?_
  | with_reducible refine Sx.call ?_
  | with_reducible refine Sx.test ?_
  | with_reducible refine Sx.tb_ ?_
  | with_reducible refine Sx.bl ?_
  | with_reducible refine Sx.and_ ?_
  | with_reducible refine Sx.or_ ?_
  | with_reducible refine Sx.not_ ?_
  | with_reducible refine Sx.andV ?_
  | with_reducible refine Sx.orV ?_
  | with_reducible refine Sx.notV ?_
  | with_reducible refine Sx.ife ?_
  | with_reducible refine Sx.i0 ?_
  | with_reducible refine Sx.iU ?_
  | with_reducible refine Sx.eqI ?_
  | with_reducible refine Sx.eqS ?_
  | with_reducible refine Sx.neI ?_
  | with_reducible refine Sx.neS ?_
  | with_reducible refine Sx.isN' ?_
  | with_reducible refine Sx.chain ?_
  | with_reducible refine Sx.aug ?_
  | with_reducible refine Sx.ipI' ?_
  | with_reducible refine Sx.ifT ?_
  | with_reducible refine Sx.ifF ?_
  | with_reducible refine Sx.ifnF ?_
  | with_reducible refine Sx.ifnT ?_
  | with_reducible refine Sx.tup ?_
  | with_reducible refine Sx.lst ?_
  | with_reducible refine Sx.fld ?_
  | with_reducible refine Sx.sfld ?_
  | with_reducible refine Sx.meth ?_
  | with_reducible refine Sx.app ?_
  | with_reducible refine Sx.gcons ?_
  | with_reducible refine Sx.gnil ?_
  | with_reducible refine Sx.dget ?_
  | with_reducible refine Sx.din ?_
  | with_reducible refine Sx.dnin ?_
  | with_reducible refine Sx.dput ?_
  | with_reducible refine Sx.forS ?_
  | with_reducible refine Sx.ikeys ?_
  | with_reducible refine Sx.ienumT ?_
  | with_reducible refine Sx.scT ?_
  | with_reducible refine Sx.dc2 ?_
  | with_reducible refine Sx.tru ?_
  | with_reducible refine Sx.mv ?_
  | with_reducible refine Sx.cv ?_
  | with_reducible refine Sx.cw ?_
  | with_reducible refine Sx.join ?_
  | with_reducible refine Sx.lc ?_
  | with_reducible refine Sx.istr ?_
  | with_reducible refine Sx.ilist ?_
  | with_reducible refine Sx.itup ?_
  | with_reducible refine Sx.irng1 ?_
  | with_reducible refine Sx.irng2 ?_
  | with_reducible refine Sx.ienum ?_
  | with_reducible refine Sx.izip ?_
  | with_reducible refine Sx.irev ?_
  | with_reducible refine Sx.iitems ?_
  | with_reducible refine Sx.yes ?_
  | with_reducible refine Sx.js_cons ?_
  | with_reducible refine Sx.js_nil ?_
  | with_reducible refine Sx.fmt ?_
  | with_reducible refine Sx.isi_int ?_
  | with_reducible refine Sx.isi_intb ?_
  | with_reducible refine Sx.isi_str ?_)
local macro_rules | `(tactic| walk_at "go") => `(tactic| repeat walk_at "st")
local macro_rules | `(tactic| walk_at "is") => `(tactic| simp only [Option.isSome_some, Option.isSome_none, Bool.not_true, Bool.not_false])
/-! The law's own reckoning: lines. -/
section
variable {P : Program} {w : World} {K : PySem.W.Frag} {mg : Str → Option Value} {base : Heap}
theorem wf_drop {T : List Rw} (W : Nt.WF T) {i : Nat} (hi : i < T.length) : Nt.WF (T.drop i) := by
  refine Nt.WF.suffix (A := T.take i) (by rw [List.take_append_drop]; exact W) fun z => ?_
  have := congrArg List.length z
  rw [List.length_drop, List.length_nil] at this
  omega
/-- one step up -/
theorem line_step {r : Rw} {T : List Rw} (W : Nt.WF (r :: T)) (u : Str) : Nt.line (r :: T) u = (if u = r.name then match r.elder with
    | none => Nt.line T u
    | some e => u :: Nt.line T e else Nt.line T u) := by
  by_cases h : u = r.name
  · rw [if_pos h, h]
    rcases W.row with ⟨e1, e2, _⟩ | ⟨_, p, e2, _⟩
    · rcases W.line_of r List.mem_cons_self with ⟨_, z⟩ | ⟨e, z, _⟩
      · rw [z, e2, e1]
        rfl
      · rw [e2] at z
        cases z
    · rw [Nt.line_new e2, e2]
  · rw [if_neg h, Nt.line_old h]
def sp_lline : Sp := fun vs H Q _ => ∃ (a : Addr) (rs : List (Addr × Rw)) (x : Str), vs = [.ref a, .str x] ∧ RL H a rs ∧ RowsOk rs ∧ ∀ l H', Same H H' → H' l = some (.lst ((Nt.line (revT rs) x).map V.str)) → Q (.ref l) H'
theorem ok_law_line (T : Tx K mg) : O__law_line P w K mg base 1 sp_lline := by
  refine T.F__law_line.ok sc__law_line (fun vs H Q E h => ?_) (fun cdv A outer s H vs Q E hr h => ?_)
  · obtain ⟨a, rs, x, rfl, _⟩ := h
    rfl
  · obtain ⟨a, rs, x, rfl, ⟨h1, h2⟩, ok, k⟩ := h
    refine ⟨_, PSs.nox ((pss_cons (ps_set (i := 2) sc__law_line.nd rfl (Or.inl rfl) (pe_lst (pa_cons (pv 1) pa_nil))) (pss_cons (ps_for PassesOwn.never rfl (show PI _ _ _ (iRev K _) from pi_reversed (by rfl) T.f_reversed (pa_cons (pv 0) pa_nil)) (pg_name (i := 3) sc__law_line.nd rfl (Or.inl rfl)) (pss_one (ps_if (PW.pt (pw_and (pt_cmpR op_eq (pe_ix (Kw.ixT K) (pv 3) (pe_int) (fun _ _ => rfl)) (pe_ix (Kw.ixL K) (pv 2) (pe_un un_neg (pe_int)) (fun _ _ => rfl)) (nomark _)) (pw_and1 (pt_cmpR op_notN (pe_ix (Kw.ixT K) (pv 3) (pe_int) (fun _ _ => rfl)) pe_non (nomark _))))) (pss_one (ps_expr (show PE _ _ (tBM K _ _ _ _) from pe_bm PySem.F.plainAttrs_list PySem.F.slot_list_append PySem.F.type_list_append mt_append (pv 2) (pa_cons (pe_ix (Kw.ixT K) (pv 3) (pe_int) (fun _ _ => rfl)) pa_nil)))) pss_nil))) (pss_one (ps_ret (pv 2)))))), ?_⟩
    have hlen := ok.len
    have tl : (revT rs).length = rs.length := by simp [revT]
    walk_at "go"
    refine Sx.nw (by show 1 ≤ 4096; decide) fun l nl => ?_
    have nal : a ≠ l := ne_of_none h1 nl
    walk_at "go"
    refine ⟨a, _, rfl, SqL.of (show (upd H l _) a = some (.lst (rs.map fun q => V.ref q.1)) by rw [upd_ne nal]; exact h1), ?_⟩
    refine VrX.for_J (n := rs.length) (fun i σ H' => (Same H H' ∧ ∃ pre u, H' l = some (.lst ((pre ++ [u]).map V.str)) ∧ pre.length ≤ i ∧ Nt.line (revT rs) x = pre ++ Nt.line ((revT rs).drop i) u) ∧ ∃ v, σ = [some (.ref a), some (.str x), some (.ref l), v])
      ⟨⟨Sx.same_new (Sx.same_rfl _) nl, [], x, upd_same, Nat.le_refl _, rfl⟩, _, rfl⟩
      (fun _ _ h => by show (rs.map fun q => V.ref q.1).length ≤ _; rw [List.length_map]; exact Nat.le_refl _) (fun i _ _ hi h => ⟨by rw [List.length_map]; exact hi, _, V.ref rs[rs.length - 1 - i].1, SqL.of (h.1.1 _ _ h1), by rw [List.length_map, List.getElem?_map, List.getElem?_eq_getElem (by omega)]; rfl⟩) ?_ ?_
    · rintro i y σ H1 H2 hi ⟨⟨s1, pre, u, d1, d2, d3⟩, v, rfl⟩ ⟨rfl, hy⟩
      have hy2 := hy _ (SqL.of (s1 _ _ h1))
      have hj : rs.length - 1 - i < rs.length := by omega
      rw [List.length_map, List.getElem?_map, List.getElem?_eq_getElem hj] at hy2
      obtain rfl : V.ref rs[rs.length - 1 - i].1 = y := Option.some.inj hy2
      have hq := s1 _ _ (h2 _ (List.getElem_mem hj))
      have eT : (revT rs)[i]? = some rs[rs.length - 1 - i].2 := by
        rw [revT, List.getElem?_reverse (by rw [List.length_map]; exact hi), List.length_map, List.getElem?_map, List.getElem?_eq_getElem hj]
        rfl
      have eD : (revT rs).drop i = rs[rs.length - 1 - i].2 :: (revT rs).drop (i + 1) := by
        obtain ⟨z1, z2⟩ := List.getElem?_eq_some_iff.mp eT
        rw [List.drop_eq_getElem_cons z1, z2]
      have W := wf_drop ok.wf (i := i) (by rw [tl]; exact hi)
      rw [eD] at W
      rw [eD, line_step W] at d3
      generalize rs[rs.length - 1 - i] = q at hq d3
      obtain ⟨t, r⟩ := q
      walk_at "go"
      refine Sx.ixT (SqT.of hq) rfl ?_
      walk_at "go"
      refine Sx.ixL (SqL.of d1) (v := .str u) (by rw [List.map_append]; exact atI_last _ _) ?_
      walk_at "go"
      by_cases hu : r.name = u
      · refine Sx.dT hu ?_
        rw [if_pos hu.symm] at d3
        walk_at "go"
        refine Sx.ixT (SqT.of hq) rfl ?_
        walk_at "go"
        cases he : r.elder with
        | none =>
          rw [he] at d3
          refine Sx.ndT rfl ?_
          walk_at "go"
          exact ⟨⟨s1, pre, u, d1, by omega, d3⟩, _, rfl⟩
        | some e =>
          rw [he] at d3
          refine Sx.ndF (fun z => by cases z) ?_
          walk_at "go"
          refine Sx.appA d1 ?_
          walk_at "go"
          refine Sx.ixT (SqT.of hq) (v := .str e) (atI_nat (j := 1) (by show some (evV r.elder) = _; rw [he]; rfl)) ?_
          walk_at "go"
          refine Sx.appB d1 (by simp; omega) ?_
          refine ⟨⟨fun b o z => ?_, pre ++ [u], e, ?_, by simp; omega, ?_⟩, _, rfl⟩
          · rw [upd_ne (ne_of_none z nl)]
            exact s1 _ _ z
          · rw [upd_same, List.map_append (l₂ := [e])]
            rfl
          · rw [List.append_assoc]
            exact d3
      · refine Sx.dF hu ?_
        rw [if_neg (fun z => hu z.symm)] at d3
        walk_at "go"
        exact ⟨⟨s1, pre, u, d1, by omega, d3⟩, _, rfl⟩
    · rintro σ H1 ⟨⟨s1, pre, u, d1, d2, d3⟩, v, rfl⟩
      rw [List.drop_of_length_le (by rw [tl]; exact Nat.le_refl _)] at d3
      walk_at "go"
      refine k l H1 s1 ?_
      rw [d3]
      exact d1
end
end Wk

set_option Elab.async false
set_option linter.all false
set_option maxRecDepth 100000
set_option maxHeartbeats 2000000
namespace Wk
open PySem PySem.Spec PyProof.Rows L2 NdefX SuX Hk
local macro_rules | `(tactic| walk_at "st") => `(tactic| first
  | with_reducible refine Sx.ret ?_
  | with_reducible refine Sx.retN ?_
  | with_reducible refine Sx.seq ?_
  | with_reducible refine Sx.next ?_
  | with_reducible refine Sx.brk ?_
  | with_reducible refine Sx.cont ?_
  | with_reducible refine Sx.drop ?_
  | with_reducible refine Sx.asg ?_
  | with_reducible refine Sx.gname ?_
  | with_reducible refine Sx.ifS ?_
  | with_reducible refine Sx.var ?_
  | with_reducible refine Sx.con ?_
  | with_reducible refine Sx.op ?_
  | with_reducible refine Sx.un ?_
  | with_reducible refine Sx.cb ?_
  | with_reducible refine Sx.cons ?_
  | with_reducible refine Sx.nil ?_
  | with_reducible refine Sx.call ?_
  | with_reducible refine Sx.test ?_
  | with_reducible refine Sx.tb_ ?_
  | with_reducible refine Sx.bl ?_
  | with_reducible refine Sx.and_ ?_
  | with_reducible refine Sx.or_ ?_
  | with_reducible refine Sx.not_ ?_
  | with_reducible refine Sx.andV ?_
  | with_reducible refine Sx.orV ?_
  | with_reducible refine Sx.notV ?_
  | with_reducible refine Sx.ife ?_
  | with_reducible refine Sx.i0 ?_
  | with_reducible refine Sx.iU ?_
  | with_reducible refine Sx.eqI ?_
  | with_reducible refine Sx.eqS ?_
  | with_reducible refine Sx.neI ?_
  | with_reducible refine Sx.neS ?_
  | with_reducible refine Sx.isN' ?_
  | with_reducible refine Sx.chain ?_
  | with_reducible refine Sx.aug ?_
  | with_reducible refine Sx.ipI' ?_
  | with_reducible refine Sx.ifT ?_
  | with_reducible refine Sx.ifF ?_
  | with_reducible refine Sx.ifnF ?_
  | with_reducible refine Sx.ifnT ?_
  | with_reducible refine Sx.tup ?_
  | with_reducible refine Sx.lst ?_
  | with_reducible refine Sx.fld ?_
  | with_reducible refine Sx.sfld ?_
  | with_reducible refine Sx.meth ?_
  | with_reducible refine Sx.app ?_
  | with_reducible refine Sx.gcons ?_
  | with_reducible refine Sx.gnil ?_
  | with_reducible refine Sx.dget ?_
  | with_reducible refine Sx.din ?_
  | with_reducible refine Sx.dnin ?_
  | with_reducible refine Sx.dput ?_
  | with_reducible refine Sx.forS ?_
  | with_reducible refine Sx.ikeys ?_
  | with_reducible refine Sx.ienumT ?_
  | with_reducible refine Sx.scT ?_
  | with_reducible refine Sx.dc2 ?_
  | with_reducible refine Sx.tru ?_
  | with_reducible refine Sx.mv ?_
  | with_reducible refine Sx.cv ?_
  | with_reducible refine Sx.cw ?_
  | with_reducible refine Sx.join ?_
  | with_reducible refine Sx.lc ?_
  | with_reducible refine Sx.istr ?_
  | with_reducible refine Sx.ilist ?_
  | with_reducible refine Sx.itup ?_
  | with_reducible refine Sx.irng1 ?_
  | with_reducible refine Sx.irng2 ?_
  | with_reducible refine Sx.ienum ?_
  | with_reducible refine Sx.izip ?_
  | with_reducible refine Sx.irev ?_
  | with_reducible refine Sx.iitems ?_
  | with_reducible refine Sx.yes ?_
  | with_reducible refine Sx.js_cons ?_
  | with_reducible refine Sx.js_nil ?_
  | with_reducible refine Sx.fmt ?_
  | with_reducible refine Sx.isi_int ?_
  | with_reducible refine Sx.isi_intb ?_
  | with_reducible refine Sx.isi_str ?_)
local macro_rules | `(tactic| walk_at "go") => `(tactic| repeat walk_at "st")
local macro_rules | `(tactic| walk_at "is") => `(tactic| simp only [Option.isSome_some, Option.isSome_none, Bool.not_true, Bool.not_false])
/-! The law's own reckoning: distances. -/
theorem line_len {α : Type} [DecidableEq α] : ∀ (T : List (Nt.Row α)) (s : α), (Nt.line T s).length ≤ T.length + 1
  | [], s => Nat.le_refl _
  | r :: T, s => by
    have ih := fun u => line_len T u
    unfold Nt.line
    split
    · split
      · simp
      · rename_i e _
        have := ih e
        simp only [List.length_cons]
        omega
    · have := ih s
      simp only [List.length_cons]
      omega
section
variable {P : Program} {w : World} {K : PySem.W.Frag} {mg : Str → Option Value} {base : Heap}
theorem filt_snoc {A : List Str} {f : Str → Bool} {i : Nat} (hi : i < A.length) : (A.take (i + 1)).filter f = (A.take i).filter f ++ (if f A[i] = true then [A[i]] else []) := by
  rw [List.take_succ, List.filter_append, List.getElem?_eq_getElem hi]
  show _ ++ List.filter _ [A[i]] = _
  rw [List.filter_cons]
  rfl
def sp_lfar : Sp := fun vs H Q _ => ∃ (a : Addr) (rs : List (Addr × Rw)) (x y : Str), vs = [.ref a, .str x, .str y] ∧ RL H a rs ∧ RowsOk rs ∧ x ∈ rwN rs ∧ y ∈ rwN rs ∧ ∀ H', Same H H' → Q (.int (Nt.D (revT rs) x y)) H'
theorem ok_law_far (T : Tx K mg) : O__law_far P w K mg base 2 sp_lfar := by
  have G__law_line : O__law_line P w K mg base 1 sp_lline := ok_law_line T
  have G__law_row : O__law_row P w K mg base 1 sp_lrow := ok_law_row T
  refine T.F__law_far.ok sc__law_far (fun vs H Q E h => ?_) (fun cdv A outer s H vs Q E hr h => ?_)
  · obtain ⟨a, rs, x, y, rfl, _⟩ := h
    rfl
  · obtain ⟨a, rs, x, y, rfl, hl, ok, hx, hy, k⟩ := h
    refine ⟨_, PSs.nox ((pss_cons (ps_set (i := 3) sc__law_far.nd rfl (Or.inr rfl) (pe_call G__law_line (hr.mono (by decide)) rfl T.g__law_line T.F__law_line.kp T.b__law_line .nil pass0 (pa_cons (pv 0) (pa_cons (pv 1) pa_nil)))) (pss_cons (ps_set (i := 4) sc__law_far.nd rfl (Or.inr rfl) (pe_call G__law_line (hr.mono (by decide)) rfl T.g__law_line T.F__law_line.kp T.b__law_line .nil pass0 (pa_cons (pv 0) (pa_cons (pv 2) pa_nil)))) (pss_cons (ps_set (i := 5) sc__law_far.nd rfl (Or.inl rfl) (pe_op op_cat (pe_lc (own := [("_law_spot", 6)]) (g := gName 6) rfl sc__law_far.nd (show PI _ _ _ (iList K _) from pi_list (pv 3)) (blkOk_by (own := [("_law_spot", 6)]) (N := N__law_far) (sc := defScope sd__law_far) (by decide +kernel)) (fun _ _ _ _ _ => (pg_name (i := 6) sc__law_far.nd rfl (Or.inl rfl))) (fun _ _ _ _ _ => (pts_one (pt_cmpR (Kw.ninS K) (pv 6) (pv 4) rfl))) (fun _ _ _ _ _ => (pv 6))) (pe_lc (own := [("_law_spot", 6)]) (g := gName 6) rfl sc__law_far.nd (show PI _ _ _ (iList K _) from pi_list (pv 4)) (blkOk_by (own := [("_law_spot", 6)]) (N := N__law_far) (sc := defScope sd__law_far) (by decide +kernel)) (fun _ _ _ _ _ => (pg_name (i := 6) sc__law_far.nd rfl (Or.inl rfl))) (fun _ _ _ _ _ => (pts_one (pt_cmpR (Kw.ninS K) (pv 6) (pv 3) rfl))) (fun _ _ _ _ _ => (pv 6))))) (pss_one (ps_ret (pe_callB (Kw.sum K rfl) (by rfl) T.f_sum (by decide +kernel) (pa_cons (pe_lc (own := [("_law_spot", 6)]) (g := gName 6) (tt := tYes) rfl sc__law_far.nd (show PI _ _ _ (iList K _) from pi_list (pv 5)) (blkOk_by (own := [("_law_spot", 6)]) (N := N__law_far) (sc := defScope sd__law_far) (by decide +kernel)) (fun _ _ _ _ _ => (pg_name (i := 6) sc__law_far.nd rfl (Or.inl rfl))) (fun _ _ _ _ _ => pts_nil) (fun _ _ _ _ _ => (pe_ix (Kw.ixT K) (pe_call G__law_row (hr.mono (by decide)) rfl T.g__law_row T.F__law_row.kp T.b__law_row .nil pass0 (pa_cons (pv 0) (pa_cons (pv 6) pa_nil))) (pe_int) (fun _ _ => rfl)))) pa_nil)))))))), ?_⟩
    have hlen := ok.len
    have tl : (revT rs).length = rs.length := by simp [revT]
    have nx : x ∈ Nt.names (revT rs) := by rw [names_revT, List.mem_reverse]; exact hx
    have ny : y ∈ Nt.names (revT rs) := by rw [names_revT, List.mem_reverse]; exact hy
    have lA := line_len (revT rs) x
    have lB := line_len (revT rs) y
    have iA := Nt.line_in ok.wf x nx
    have iB := Nt.line_in ok.wf y ny
    rw [← Nt.far_eq ok.wf x nx y ny] at k
    unfold Nt.far at k
    walk_at "go"
    have hRL := hl.same (Sx.same_rfl H)
    refine ⟨a, rs, x, rfl, hl, ok, fun l1 H1 s1 g1 => ?_⟩
    walk_at "go"
    refine ⟨a, rs, y, rfl, hl.same s1, ok, fun l2 H2 s2 g2 => ?_⟩
    have f1 := s2 _ _ g1
    generalize Nt.line (revT rs) x = A at *
    generalize Nt.line (revT rs) y = B at *
    have hl2 := hl.same (Sx.same_tr s1 s2)
    have s12 := Sx.same_tr s1 s2
    walk_at "go"
    refine ⟨l1, rfl, ⟨_, SqL.of f1⟩, fun D nD => ?_⟩
    refine VrX.lc_J (n := A.length) (fun i H' => Same H2 H' ∧ H' D = some (.lst (((A.take i).filter fun z => !decide (z ∈ B)).map V.str))) ⟨Sx.same_new (Sx.same_rfl _) nD, upd_same⟩
      (fun _ h => ⟨_, SqL.of (h.1 _ _ f1), by simp⟩) (fun i _ hi h => ⟨_, V.str A[i], SqL.of (h.1 _ _ f1), by simp [hi]⟩) ?_ ?_
    · rintro i v Ha Hb hi ⟨sx, hD⟩ ⟨rfl, hv⟩
      have hv2 := hv _ (SqL.of (sx _ _ f1))
      rw [List.getElem?_map, List.getElem?_eq_getElem hi] at hv2
      obtain rfl : V.str A[i] = v := Option.some.inj hv2
      have fl := List.length_filter_le (fun z => !decide (z ∈ B)) (A.take i)
      rw [List.length_take] at fl
      rw [filt_snoc hi]
      walk_at "go"
      refine ⟨rfl, ?_⟩
      walk_at "go"
      refine ⟨l2, _, rfl, .inl (SqL.of (sx _ _ g2)), rfl, flat_strs _, ?_⟩
      rw [inV_str]
      walk_at "go"
      by_cases hc : A[i] ∈ B
      · refine Sx.bF (by show (!decide (A[i] ∈ B)) = false; rw [decide_eq_true hc]; rfl) ?_
        rw [if_neg (by rw [decide_eq_true hc]; decide), List.append_nil]
        exact ⟨sx, hD⟩
      · refine Sx.bT (by show (!decide (A[i] ∈ B)) = true; rw [decide_eq_false hc]; rfl) ?_
        rw [if_pos (by rw [decide_eq_false hc]; rfl)]
        walk_at "go"
        refine ⟨_, hD, by rw [List.length_map, sizeLine_eq]; omega, Sx.same_new sx (nD), ?_⟩
        rw [upd_same, List.map_append]
        rfl
    rintro H3 ⟨s3, hD⟩
    rw [List.take_length] at hD
    have f13 := s3 _ _ f1
    have g23 := s3 _ _ g2
    walk_at "go"
    refine ⟨l2, rfl, ⟨_, SqL.of g23⟩, fun E2 nE2 => ?_⟩
    refine VrX.lc_J (n := B.length) (fun i H' => Same H3 H' ∧ H' E2 = some (.lst (((B.take i).filter fun z => !decide (z ∈ A)).map V.str))) ⟨Sx.same_new (Sx.same_rfl _) nE2, upd_same⟩
      (fun _ h => ⟨_, SqL.of (h.1 _ _ g23), by simp⟩) (fun i _ hi h => ⟨_, V.str B[i], SqL.of (h.1 _ _ g23), by simp [hi]⟩) ?_ ?_
    · rintro i v Ha Hb hi ⟨sx, hD⟩ ⟨rfl, hv⟩
      have hv2 := hv _ (SqL.of (sx _ _ g23))
      rw [List.getElem?_map, List.getElem?_eq_getElem hi] at hv2
      obtain rfl : V.str B[i] = v := Option.some.inj hv2
      have fl := List.length_filter_le (fun z => !decide (z ∈ A)) (B.take i)
      rw [List.length_take] at fl
      rw [filt_snoc hi]
      walk_at "go"
      refine ⟨rfl, ?_⟩
      walk_at "go"
      refine ⟨l1, _, rfl, .inl (SqL.of (sx _ _ f13)), rfl, flat_strs _, ?_⟩
      rw [inV_str]
      walk_at "go"
      by_cases hc : B[i] ∈ A
      · refine Sx.bF (by show (!decide (B[i] ∈ A)) = false; rw [decide_eq_true hc]; rfl) ?_
        rw [if_neg (by rw [decide_eq_true hc]; decide), List.append_nil]
        exact ⟨sx, hD⟩
      · refine Sx.bT (by show (!decide (B[i] ∈ A)) = true; rw [decide_eq_false hc]; rfl) ?_
        rw [if_pos (by rw [decide_eq_false hc]; rfl)]
        walk_at "go"
        refine ⟨_, hD, by rw [List.length_map, sizeLine_eq]; omega, Sx.same_new sx (nE2), ?_⟩
        rw [upd_same, List.map_append]
        rfl
    rintro H4 ⟨s4, hE⟩
    rw [List.take_length] at hE
    have fa := List.length_filter_le (fun z => !decide (z ∈ B)) A
    have fb := List.length_filter_le (fun z => !decide (z ∈ A)) B
    refine Sx.cat (s4 _ _ hD) hE (by rw [List.length_map, List.length_map]; omega) fun p np => ?_
    rw [← List.map_append]
    have iC : ∀ z ∈ A.filter (fun z => !decide (z ∈ B)) ++ B.filter (fun z => !decide (z ∈ A)), z ∈ rwN rs := fun z hz => by
      have : z ∈ Nt.names (revT rs) := by
        rcases List.mem_append.mp hz with h | h
        · exact iA z (List.mem_filter.mp h).1
        · exact iB z (List.mem_filter.mp h).1
      rw [names_revT, List.mem_reverse] at this
      exact this
    have lC : (A.filter (fun z => !decide (z ∈ B)) ++ B.filter (fun z => !decide (z ∈ A))).length ≤ 26 := by
      rw [List.length_append]
      omega
    have s5 : Same H (upd H4 p (.lst ((A.filter (fun z => !decide (z ∈ B)) ++ B.filter (fun z => !decide (z ∈ A))).map V.str))) := Sx.same_new (Sx.same_tr s12 (Sx.same_tr s3 s4)) (Sx.new_none (Sx.same_tr s12 (Sx.same_tr s3 s4)) np)
    have hp : (upd H4 p (.lst ((A.filter (fun z => !decide (z ∈ B)) ++ B.filter (fun z => !decide (z ∈ A))).map V.str))) p = some (.lst ((A.filter (fun z => !decide (z ∈ B)) ++ B.filter (fun z => !decide (z ∈ A))).map V.str)) := upd_same
    generalize upd H4 p _ = H5 at s5 hp
    generalize A.filter (fun z => !decide (z ∈ B)) ++ B.filter (fun z => !decide (z ∈ A)) = C at *
    walk_at "go"
    refine ⟨p, rfl, ⟨_, SqL.of hp⟩, fun F nF => ?_⟩
    refine VrX.lc_J (n := C.length) (fun i H' => Same H5 H' ∧ H' F = some (.lst (((C.take i).map (Nt.deOf (revT rs))).map V.int))) ⟨Sx.same_new (Sx.same_rfl _) nF, upd_same⟩
      (fun _ h => ⟨_, SqL.of (h.1 _ _ hp), by simp⟩) (fun i _ hi h => ⟨_, V.str C[i], SqL.of (h.1 _ _ hp), by simp [hi]⟩) ?_ ?_
    · rintro i v Ha Hb hi ⟨sx, hF⟩ ⟨rfl, hv⟩
      have hv2 := hv _ (SqL.of (sx _ _ hp))
      rw [List.getElem?_map, List.getElem?_eq_getElem hi] at hv2
      obtain rfl : V.str C[i] = v := Option.some.inj hv2
      walk_at "go"
      refine ⟨rfl, ?_⟩
      walk_at "go"
      refine ⟨a, rs, C[i], rfl, hl.same (Sx.same_tr s5 sx), hlen, iC _ (List.getElem_mem hi), fun q hq eq Hc sc => ?_⟩
      walk_at "go"
      refine Sx.ixT (SqT.of (sc _ _ ((Sx.same_tr s5 sx) _ _ (hl.2 q hq)))) rfl ?_
      refine ⟨_, sc _ _ hF, by rw [List.length_map, List.length_map, List.length_take, sizeLine_eq]; omega, Sx.same_new (Sx.same_tr sx sc) nF, ?_⟩
      rw [upd_same, List.take_succ, List.getElem?_eq_getElem hi, List.map_append, List.map_append, ← (er_row ok.wf hq).2, eq]
      rfl
    · rintro H6 ⟨s6, hF⟩
      rw [List.take_length] at hF
      walk_at "go"
      exact ⟨F, _, rfl, SqL.of hF, k H6 (Sx.same_tr s5 s6)⟩
end
end Wk

set_option Elab.async false
set_option linter.all false
set_option maxRecDepth 100000
set_option maxHeartbeats 2000000
namespace Wk
open PySem PySem.Spec PyProof.Rows L2 NdefX SuX Hk
local macro_rules | `(tactic| walk_at "st") => `(tactic| first
  | with_reducible refine Sx.ret ?_
  | with_reducible refine Sx.retN ?_
  | with_reducible refine Sx.seq ?_
  | with_reducible refine Sx.next ?_
  | with_reducible refine Sx.brk ?_
  | with_reducible refine Sx.cont ?_
  | with_reducible refine Sx.drop ?_
  | with_reducible refine Sx.asg ?_
  | with_reducible refine Sx.gname ?_
  | with_reducible refine Sx.ifS ?_
  | with_reducible refine Sx.var ?_
  | with_reducible refine Sx.con ?_
  | with_reducible refine Sx.op ?_
  | with_reducible refine Sx.un ?_
  | with_reducible refine Sx.cb ?_
  | with_reducible refine Sx.cons ?_
  | with_reducible refine Sx.nil ?_
  | with_reducible refine Sx.call ?_
  | with_reducible refine Sx.test ?_
  | with_reducible refine Sx.tb_ ?_
  | with_reducible refine Sx.bl ?_
  | with_reducible refine Sx.and_ ?_
  | with_reducible refine Sx.or_ ?_
  | with_reducible refine Sx.not_ ?_
  | with_reducible refine Sx.andV ?_
  | with_reducible refine Sx.orV ?_
  | with_reducible refine Sx.notV ?_
  | with_reducible refine Sx.ife ?_
  | with_reducible refine Sx.i0 ?_
  | with_reducible refine Sx.iU ?_
  | with_reducible refine Sx.eqI ?_
  | with_reducible refine Sx.eqS ?_
  | with_reducible refine Sx.neI ?_
  | with_reducible refine Sx.neS ?_
  | with_reducible refine Sx.isN' ?_
  | with_reducible refine Sx.chain ?_
  | with_reducible refine Sx.aug ?_
  | with_reducible refine Sx.ipI' ?_
  | with_reducible refine Sx.ifT ?_
  | with_reducible refine Sx.ifF ?_
  | with_reducible refine Sx.ifnF ?_
  | with_reducible refine Sx.ifnT ?_
  | with_reducible refine Sx.tup ?_
  | with_reducible refine Sx.lst ?_
  | with_reducible refine Sx.fld ?_
  | with_reducible refine Sx.sfld ?_
  | with_reducible refine Sx.meth ?_
  | with_reducible refine Sx.app ?_
  | with_reducible refine Sx.gcons ?_
  | with_reducible refine Sx.gnil ?_
  | with_reducible refine Sx.dget ?_
  | with_reducible refine Sx.din ?_
  | with_reducible refine Sx.dnin ?_
  | with_reducible refine Sx.dput ?_
  | with_reducible refine Sx.forS ?_
  | with_reducible refine Sx.ikeys ?_
  | with_reducible refine Sx.ienumT ?_
  | with_reducible refine Sx.scT ?_
  | with_reducible refine Sx.dc2 ?_
  | with_reducible refine Sx.tru ?_
  | with_reducible refine Sx.mv ?_
  | with_reducible refine Sx.cv ?_
  | with_reducible refine Sx.cw ?_
  | with_reducible refine Sx.join ?_
  | with_reducible refine Sx.lc ?_
  | with_reducible refine Sx.istr ?_
  | with_reducible refine Sx.ilist ?_
  | with_reducible refine Sx.itup ?_
  | with_reducible refine Sx.irng1 ?_
  | with_reducible refine Sx.irng2 ?_
  | with_reducible refine Sx.ienum ?_
  | with_reducible refine Sx.izip ?_
  | with_reducible refine Sx.irev ?_
  | with_reducible refine Sx.iitems ?_
  | with_reducible refine Sx.yes ?_
  | with_reducible refine Sx.js_cons ?_
  | with_reducible refine Sx.js_nil ?_
  | with_reducible refine Sx.fmt ?_
  | with_reducible refine Sx.isi_int ?_
  | with_reducible refine Sx.isi_intb ?_
  | with_reducible refine Sx.isi_str ?_)
local macro_rules | `(tactic| walk_at "go") => `(tactic| repeat walk_at "st")
local macro_rules | `(tactic| walk_at "is") => `(tactic| simp only [Option.isSome_some, Option.isSome_none, Bool.not_true, Bool.not_false])
/-! The law's own reckoning: gaps. -/
section
variable {P : Program} {w : World} {K : PySem.W.Frag} {mg : Str → Option Value} {base : Heap}
def sp_lgap : Sp := fun vs H Q _ => ∃ (a : Addr) (rs : List (Addr × Rw)) (x y : Str), vs = [.ref a, .str x, .str y] ∧ RL H a rs ∧ RowsOk rs ∧ x ∈ rwN rs ∧ y ∈ rwN rs ∧ ∀ t p H', Same H H' → H' t = some (.tup [.int (Nt.K (revT rs) x y), .str p]) → Q (.ref t) H'
theorem ok_law_gap (T : Tx K mg) : O__law_gap P w K mg base 3 sp_lgap := by
  have G__law_line : O__law_line P w K mg base 1 sp_lline := ok_law_line T
  have G__law_row : O__law_row P w K mg base 1 sp_lrow := ok_law_row T
  have G__law_far : O__law_far P w K mg base 2 sp_lfar := ok_law_far T
  refine T.F__law_gap.ok sc__law_gap (fun vs H Q E h => ?_) (fun cdv A outer s H vs Q E hr h => ?_)
  · obtain ⟨a, rs, x, y, rfl, _⟩ := h
    rfl
  · obtain ⟨a, rs, x, y, rfl, hl, ok, hx, hy, k⟩ := h
    refine ⟨_, PSs.nox ((pss_cons (ps_set (i := 3) sc__law_gap.nd rfl (Or.inl rfl) (pe_non)) (pss_cons (ps_for PassesOwn.never rfl (show PI _ _ _ (iList K _) from pi_list (pe_call G__law_line (hr.mono (by decide)) rfl T.g__law_line T.F__law_line.kp T.b__law_line .nil pass0 (pa_cons (pv 0) (pa_cons (pv 1) pa_nil)))) (pg_name (i := 4) sc__law_gap.nd rfl (Or.inl rfl)) (pss_cons (ps_set (i := 5) sc__law_gap.nd rfl (Or.inl rfl) (pe_un un_neg (pe_int))) (pss_cons (ps_if (pt_cmpR op_ne (pv 4) (pv 2) (nomark _)) (pss_one (ps_set (i := 5) sc__law_gap.nd rfl (Or.inl rfl) (pe_op op_add (pe_op op_mul (pe_int) (pe_ix (Kw.ixT K) (pe_call G__law_row (hr.mono (by decide)) rfl T.g__law_row T.F__law_row.kp T.b__law_row .nil pass0 (pa_cons (pv 0) (pa_cons (pv 4) pa_nil))) (pe_int) (fun _ _ => rfl))) (pe_call G__law_far (hr.mono (by decide)) rfl T.g__law_far T.F__law_far.kp T.b__law_far .nil pass0 (pa_cons (pv 0) (pa_cons (pv 4) (pa_cons (pv 2) pa_nil))))))) pss_nil) (pss_one (ps_if (PW.pt (pw_or (pt_cmpR op_isN (pv 3) pe_non (nomark _)) (pw_or1 (pt_cmpR op_lt (pv 5) (pe_ix (Kw.ixT K) (pv 3) (pe_int) (fun _ _ => rfl)) (nomark _))))) (pss_one (ps_set (i := 3) sc__law_gap.nd rfl (Or.inl rfl) (pe_tup (pa_cons (pv 5) (pa_cons (pv 4) pa_nil))))) pss_nil))))) (pss_one (ps_ret (pv 3)))))), ?_⟩
    have hlen := ok.len
    have nx : x ∈ Nt.names (revT rs) := by rw [names_revT, List.mem_reverse]; exact hx
    have iA := Nt.line_in ok.wf x nx
    have hK := Nt.K_is (revT rs) x y
    have ne : 0 < (Nt.line (revT rs) x).length := List.length_pos_of_mem (Nt.line_self (revT rs) x)
    walk_at "go"
    refine ⟨a, rs, x, rfl, hl, ok, fun l1 H1 s1 g1 => ?_⟩
    generalize Nt.line (revT rs) x = A at *
    refine ⟨l1, rfl, ⟨_, SqL.of g1⟩, VrX.for_J (n := A.length) (fun i σ H' => (Same H1 H' ∧ ∃ b, (i = 0 ∧ b = V.non ∨ 0 < i ∧ ∃ t m p, b = V.ref t ∧ H' t = some (.tup [.int m, .str p]) ∧ Nt.IsMin (Nt.own (revT rs) y) (A.take i) m) ∧ ∃ v4 v5, σ = [some (.ref a), some (.str x), some (.str y), some b, v4, v5]))
      ⟨Sx.same_rfl _, V.non, .inl ⟨rfl, rfl⟩, _, _, rfl⟩
      (fun _ _ h => ⟨_, SqL.of (h.1 _ _ g1), by simp⟩) (fun i _ _ hi h => ⟨_, V.str A[i], SqL.of (h.1 _ _ g1), by simp [hi]⟩) ?_ ?_⟩
    · rintro i v σ H2 H3 hi ⟨s2, b, hb, v4, v5, rfl⟩ ⟨rfl, hv⟩
      have hv2 := hv _ (SqL.of (s2 _ _ g1))
      rw [List.getElem?_map, List.getElem?_eq_getElem hi] at hv2
      obtain rfl : V.str A[i] = v := Option.some.inj hv2
      have hin : A[i] ∈ rwN rs := by
        have := iA _ (List.getElem_mem hi)
        rw [names_revT, List.mem_reverse] at this
        exact this
      have etk : A.take (i + 1) = A.take i ++ [A[i]] := by rw [List.take_succ, List.getElem?_eq_getElem hi]; rfl
      walk_at "go"
      by_cases hc : A[i] = y
      · have en : Nt.own (revT rs) y A[i] = -1 := if_pos hc
        refine Sx.ndT hc ?_
        walk_at "go"
        rw [← en]
        rcases hb with ⟨e0, rfl⟩ | ⟨e0, t, m0, p0, rfl, ht, hm0⟩
        · subst e0
          walk_at "go"
          refine Sx.dT rfl ?_
          walk_at "go"
          refine Sx.nw (by show 2 ≤ _; decide) fun t nt => ?_
          walk_at "go"
          refine ⟨Sx.same_new s2 (Sx.new_none s2 nt), V.ref t, .inr ⟨by omega, t, _, _, rfl, upd_same, ?_⟩, _, _, rfl⟩
          rw [etk]
          exact Nt.IsMin.one
        · walk_at "go"
          refine Sx.dF (fun z => by cases z) ?_
          walk_at "go"
          refine Sx.ixT (SqT.of ht) (v := .int m0) (atI_nat (j := 0) rfl) ?_
          walk_at "go"
          have hs := hm0.snoc (x := A[i])
          rw [← etk] at hs
          refine Sx.ifd (fun c2 => ?_) (fun c2 => ?_)
          · rw [if_pos c2] at hs
            walk_at "go"
            refine Sx.nw (by show 2 ≤ _; decide) fun t2 nt => ?_
            walk_at "go"
            exact ⟨Sx.same_new s2 (Sx.new_none s2 nt), V.ref t2, .inr ⟨by omega, t2, _, _, rfl, upd_same, hs⟩, _, _, rfl⟩
          · rw [if_neg c2] at hs
            walk_at "go"
            exact ⟨s2, V.ref t, .inr ⟨by omega, t, _, _, rfl, ht, hs⟩, _, _, rfl⟩
      · have en : Nt.own (revT rs) y A[i] = 2 * Nt.erOf (revT rs) A[i] + Nt.D (revT rs) A[i] y := if_neg hc
        refine Sx.ndF hc ?_
        walk_at "go"
        refine ⟨a, rs, A[i], rfl, hl.same (Sx.same_tr s1 s2), hlen, hin, fun q hq eq H4 s4 => ?_⟩
        walk_at "go"
        have sHq := s4 _ _ ((Sx.same_tr s1 s2) _ _ (hl.2 q hq))
        refine Sx.ixT (SqT.of sHq) (v := .int q.2.er) (atI_nat (j := 2) rfl) ?_
        refine Sx.iC (.inl ⟨by decide, by decide⟩) ?_
        walk_at "go"
        refine ⟨a, rs, A[i], y, rfl, hl.same (Sx.same_tr (Sx.same_tr s1 s2) s4), ok, hin, hy, fun H5 s5 => ?_⟩
        walk_at "go"
        rw [← (er_row ok.wf hq).1, eq, ← en]
        have s25 := Sx.same_tr s2 (Sx.same_tr s4 s5)
        have hb5 : i = 0 ∧ b = V.non ∨ 0 < i ∧ ∃ t m p, b = V.ref t ∧ H5 t = some (HO.tup [V.int m, V.str p]) ∧ Nt.IsMin (Nt.own (revT rs) y) (List.take i A) m := by
          rcases hb with z | ⟨z, t, m, p, z1, z2, z3⟩
          · exact .inl z
          · exact .inr ⟨z, t, m, p, z1, s5 _ _ (s4 _ _ z2), z3⟩
        rcases hb5 with ⟨e0, rfl⟩ | ⟨e0, t, m0, p0, rfl, ht, hm0⟩
        · subst e0
          walk_at "go"
          refine Sx.dT rfl ?_
          walk_at "go"
          refine Sx.nw (by show 2 ≤ _; decide) fun t nt => ?_
          walk_at "go"
          refine ⟨Sx.same_new s25 (Sx.new_none s25 nt), V.ref t, .inr ⟨by omega, t, _, _, rfl, upd_same, ?_⟩, _, _, rfl⟩
          rw [etk]
          exact Nt.IsMin.one
        · walk_at "go"
          refine Sx.dF (fun z => by cases z) ?_
          walk_at "go"
          refine Sx.ixT (SqT.of ht) (v := .int m0) (atI_nat (j := 0) rfl) ?_
          walk_at "go"
          have hs := hm0.snoc (x := A[i])
          rw [← etk] at hs
          refine Sx.ifd (fun c2 => ?_) (fun c2 => ?_)
          · rw [if_pos c2] at hs
            walk_at "go"
            refine Sx.nw (by show 2 ≤ _; decide) fun t2 nt => ?_
            walk_at "go"
            exact ⟨Sx.same_new s25 (Sx.new_none s25 nt), V.ref t2, .inr ⟨by omega, t2, _, _, rfl, upd_same, hs⟩, _, _, rfl⟩
          · rw [if_neg c2] at hs
            walk_at "go"
            exact ⟨s25, V.ref t, .inr ⟨by omega, t, _, _, rfl, ht, hs⟩, _, _, rfl⟩
    · rintro σ H2 ⟨s2, b, hb, v4, v5, rfl⟩
      rcases hb with ⟨e, _⟩ | ⟨_, t, m, p, rfl, ht, hm⟩
      · omega
      · rw [List.take_length] at hm
        walk_at "go"
        refine k t p H2 (Sx.same_tr s1 s2) ?_
        rw [← hm.eq hK]
        exact ht
end
end Wk

set_option Elab.async false
set_option linter.all false
set_option maxRecDepth 100000
set_option maxHeartbeats 2000000
namespace Wk
open PySem PySem.Spec PyProof.Rows L2 NdefX SuX Hk
local macro_rules | `(tactic| walk_at "st") => `(tactic| first
  | with_reducible refine Sx.ret ?_
  | with_reducible refine Sx.retN ?_
  | with_reducible refine Sx.seq ?_
  | with_reducible refine Sx.next ?_
  | with_reducible refine Sx.brk ?_
  | with_reducible refine Sx.cont ?_
  | with_reducible refine Sx.drop ?_
  | with_reducible refine Sx.asg ?_
  | with_reducible refine Sx.gname ?_
  | with_reducible refine Sx.ifS ?_
  | with_reducible refine Sx.var ?_
  | with_reducible refine Sx.con ?_
  | with_reducible refine Sx.op ?_
  | with_reducible refine Sx.un ?_
  | with_reducible refine Sx.cb ?_
  | with_reducible refine Sx.cons ?_
  | with_reducible refine Sx.nil ?_
  | with_reducible refine Sx.call ?_
  | with_reducible refine Sx.test ?_
  | with_reducible refine Sx.tb_ ?_
  | with_reducible refine Sx.bl ?_
  | with_reducible refine Sx.and_ ?_
  | with_reducible refine Sx.or_ ?_
  | with_reducible refine Sx.not_ ?_
  | with_reducible refine Sx.andV ?_
  | with_reducible refine Sx.orV ?_
  | with_reducible refine Sx.notV ?_
  | with_reducible refine Sx.ife ?_
  | with_reducible refine Sx.i0 ?_
  | with_reducible refine Sx.iU ?_
  | with_reducible refine Sx.eqI ?_
  | with_reducible refine Sx.eqS ?_
  | with_reducible refine Sx.neI ?_
  | with_reducible refine Sx.neS ?_
  | with_reducible refine Sx.isN' ?_
  | with_reducible refine Sx.chain ?_
  | with_reducible refine Sx.aug ?_
  | with_reducible refine Sx.ipI' ?_
  | with_reducible refine Sx.ifT ?_
  | with_reducible refine Sx.ifF ?_
  | with_reducible refine Sx.ifnF ?_
  | with_reducible refine Sx.ifnT ?_
  | with_reducible refine Sx.tup ?_
  | with_reducible refine Sx.lst ?_
  | with_reducible refine Sx.fld ?_
  | with_reducible refine Sx.sfld ?_
  | with_reducible refine Sx.meth ?_
  | with_reducible refine Sx.app ?_
  | with_reducible refine Sx.gcons ?_
  | with_reducible refine Sx.gnil ?_
  | with_reducible refine Sx.dget ?_
  | with_reducible refine Sx.din ?_
  | with_reducible refine Sx.dnin ?_
  | with_reducible refine Sx.dput ?_
  | with_reducible refine Sx.forS ?_
  | with_reducible refine Sx.ikeys ?_
  | with_reducible refine Sx.ienumT ?_
  | with_reducible refine Sx.scT ?_
  | with_reducible refine Sx.dc2 ?_
  | with_reducible refine Sx.tru ?_
  | with_reducible refine Sx.mv ?_
  | with_reducible refine Sx.cv ?_
  | with_reducible refine Sx.cw ?_
  | with_reducible refine Sx.join ?_
  | with_reducible refine Sx.lc ?_
  | with_reducible refine Sx.istr ?_
  | with_reducible refine Sx.ilist ?_
  | with_reducible refine Sx.itup ?_
  | with_reducible refine Sx.irng1 ?_
  | with_reducible refine Sx.irng2 ?_
  | with_reducible refine Sx.ienum ?_
  | with_reducible refine Sx.izip ?_
  | with_reducible refine Sx.irev ?_
  | with_reducible refine Sx.iitems ?_
  | with_reducible refine Sx.yes ?_
  | with_reducible refine Sx.js_cons ?_
  | with_reducible refine Sx.js_nil ?_
  | with_reducible refine Sx.fmt ?_
  | with_reducible refine Sx.isi_int ?_
  | with_reducible refine Sx.isi_intb ?_
  | with_reducible refine Sx.isi_str ?_)
local macro_rules | `(tactic| walk_at "go") => `(tactic| repeat walk_at "st")
local macro_rules | `(tactic| walk_at "is") => `(tactic| simp only [Option.isSome_some, Option.isSome_none, Bool.not_true, Bool.not_false])
/-! The law's own reckoning: who leads. -/
section
variable {P : Program} {w : World} {K : PySem.W.Frag} {mg : Str → Option Value} {base : Heap}
/-! ### _law_least -/
def leastV (rs : List (Addr × Rw)) (x : Str) : Int := match rs with
  | [] => 0
  | q :: _ => if x = q.2.name then 0 else Nt.erOf (revT rs) x + Nt.D (revT rs) q.2.name x + 1
def sp_lleast : Sp := fun vs H Q _ => ∃ (a : Addr) (rs : List (Addr × Rw)) (x : Str), vs = [.ref a, .str x] ∧ RL H a rs ∧ RowsOk rs ∧ x ∈ rwN rs ∧ ∀ H', Same H H' → Q (.int (leastV rs x)) H'
theorem ok_law_least (T : Tx K mg) : O__law_least P w K mg base 3 sp_lleast := by
  have G__law_row : O__law_row P w K mg base 1 sp_lrow := ok_law_row T
  have G__law_far : O__law_far P w K mg base 2 sp_lfar := ok_law_far T
  refine T.F__law_least.ok sc__law_least (fun vs H Q E h => ?_) (fun cdv A outer s H vs Q E hr h => ?_)
  · obtain ⟨a, rs, x, rfl, _⟩ := h
    rfl
  · obtain ⟨a, rs, x, rfl, hl, ok, hx, k⟩ := h
    refine ⟨_, PSs.nox ((pss_cons (ps_if (pt_cmpR op_eq (pv 1) (pe_ix (Kw.ixT K) (pe_ix (Kw.ixL K) (pv 0) (pe_int) (fun _ _ => rfl)) (pe_int) (fun _ _ => rfl)) (nomark _)) (pss_one (ps_ret (pe_int))) pss_nil) (pss_one (ps_ret (pe_op op_add (pe_op op_add (pe_ix (Kw.ixT K) (pe_call G__law_row (hr.mono (by decide)) rfl T.g__law_row T.F__law_row.kp T.b__law_row .nil pass0 (pa_cons (pv 0) (pa_cons (pv 1) pa_nil))) (pe_int) (fun _ _ => rfl)) (pe_call G__law_far (hr.mono (by decide)) rfl T.g__law_far T.F__law_far.kp T.b__law_far .nil pass0 (pa_cons (pv 0) (pa_cons (pe_ix (Kw.ixT K) (pe_ix (Kw.ixL K) (pv 0) (pe_int) (fun _ _ => rfl)) (pe_int) (fun _ _ => rfl)) (pa_cons (pv 1) pa_nil))))) (pe_int)))))), ?_⟩
    have hlen := ok.len
    cases rs with
    | nil => cases hx
    | cons q rs =>
      obtain ⟨h1, h2⟩ := id hl
      have hq := h2 q List.mem_cons_self
      have hq1 : q.2.name ∈ rwN (q :: rs) := List.mem_cons_self
      walk_at "go"
      refine Sx.ixL (SqL.of h1) (v := .ref q.1) (atI_nat (j := 0) rfl) ?_
      walk_at "go"
      refine Sx.ixT (SqT.of hq) rfl ?_
      walk_at "go"
      by_cases hc : x = q.2.name
      · refine Sx.dT hc ?_
        walk_at "go"
        have := k H (Sx.same_rfl H)
        rw [show leastV (q :: rs) x = 0 from if_pos hc] at this
        exact this
      · refine Sx.dF hc ?_
        walk_at "go"
        refine ⟨a, q :: rs, x, rfl, hl, hlen, hx, fun q2 hq2 eq H1 s1 => ?_⟩
        walk_at "go"
        refine Sx.ixT (SqT.of (s1 _ _ (h2 _ hq2))) (v := .int q2.2.er) (atI_nat (j := 2) rfl) ?_
        walk_at "go"
        refine Sx.ixL (SqL.of (s1 _ _ h1)) (v := .ref q.1) (atI_nat (j := 0) rfl) ?_
        walk_at "go"
        refine Sx.ixT (SqT.of (s1 _ _ hq)) rfl ?_
        walk_at "go"
        refine ⟨a, q :: rs, q.2.name, x, rfl, hl.same s1, ok, hq1, hx, fun H2 s2 => ?_⟩
        walk_at "go"
        have := k H2 (Sx.same_tr s1 s2)
        rw [show leastV (q :: rs) x = _ from if_neg hc] at this
        rw [← (er_row ok.wf hq2).1, eq]
        exact this
end
end Wk

set_option Elab.async false
set_option linter.all false
set_option maxRecDepth 100000
set_option maxHeartbeats 2000000
namespace Wk
open PySem PySem.Spec PyProof.Rows L2 NdefX SuX Hk
local macro_rules | `(tactic| walk_at "st") => `(tactic| first
  | with_reducible refine Sx.ret ?_
  | with_reducible refine Sx.retN ?_
  | with_reducible refine Sx.seq ?_
  | with_reducible refine Sx.next ?_
  | with_reducible refine Sx.brk ?_
  | with_reducible refine Sx.cont ?_
  | with_reducible refine Sx.drop ?_
  | with_reducible refine Sx.asg ?_
  | with_reducible refine Sx.gname ?_
  | with_reducible refine Sx.ifS ?_
  | with_reducible refine Sx.var ?_
  | with_reducible refine Sx.con ?_
  | with_reducible refine Sx.op ?_
  | with_reducible refine Sx.un ?_
  | with_reducible refine Sx.cb ?_
  | with_reducible refine Sx.cons ?_
  | with_reducible refine Sx.nil ?_
  | with_reducible refine Sx.call ?_
  | with_reducible refine Sx.test ?_
  | with_reducible refine Sx.tb_ ?_
  | with_reducible refine Sx.bl ?_
  | with_reducible refine Sx.and_ ?_
  | with_reducible refine Sx.or_ ?_
  | with_reducible refine Sx.not_ ?_
  | with_reducible refine Sx.andV ?_
  | with_reducible refine Sx.orV ?_
  | with_reducible refine Sx.notV ?_
  | with_reducible refine Sx.ife ?_
  | with_reducible refine Sx.i0 ?_
  | with_reducible refine Sx.iU ?_
  | with_reducible refine Sx.eqI ?_
  | with_reducible refine Sx.eqS ?_
  | with_reducible refine Sx.neI ?_
  | with_reducible refine Sx.neS ?_
  | with_reducible refine Sx.isN' ?_
  | with_reducible refine Sx.chain ?_
  | with_reducible refine Sx.aug ?_
  | with_reducible refine Sx.ipI' ?_
  | with_reducible refine Sx.ifT ?_
  | with_reducible refine Sx.ifF ?_
  | with_reducible refine Sx.ifnF ?_
  | with_reducible refine Sx.ifnT ?_
  | with_reducible refine Sx.tup ?_
  | with_reducible refine Sx.lst ?_
  | with_reducible refine Sx.fld ?_
  | with_reducible refine Sx.sfld ?_
  | with_reducible refine Sx.meth ?_
  | with_reducible refine Sx.app ?_
  | with_reducible refine Sx.gcons ?_
  | with_reducible refine Sx.gnil ?_
  | with_reducible refine Sx.dget ?_
  | with_reducible refine Sx.din ?_
  | with_reducible refine Sx.dnin ?_
  | with_reducible refine Sx.dput ?_
  | with_reducible refine Sx.forS ?_
  | with_reducible refine Sx.ikeys ?_
  | with_reducible refine Sx.ienumT ?_
  | with_reducible refine Sx.scT ?_
  | with_reducible refine Sx.dc2 ?_
  | with_reducible refine Sx.tru ?_
  | with_reducible refine Sx.mv ?_
  | with_reducible refine Sx.cv ?_
  | with_reducible refine Sx.cw ?_
  | with_reducible refine Sx.join ?_
  | with_reducible refine Sx.lc ?_
  | with_reducible refine Sx.istr ?_
  | with_reducible refine Sx.ilist ?_
  | with_reducible refine Sx.itup ?_
  | with_reducible refine Sx.irng1 ?_
  | with_reducible refine Sx.irng2 ?_
  | with_reducible refine Sx.ienum ?_
  | with_reducible refine Sx.izip ?_
  | with_reducible refine Sx.irev ?_
  | with_reducible refine Sx.iitems ?_
  | with_reducible refine Sx.yes ?_
  | with_reducible refine Sx.js_cons ?_
  | with_reducible refine Sx.js_nil ?_
  | with_reducible refine Sx.fmt ?_
  | with_reducible refine Sx.isi_int ?_
  | with_reducible refine Sx.isi_intb ?_
  | with_reducible refine Sx.isi_str ?_)
local macro_rules | `(tactic| walk_at "go") => `(tactic| repeat walk_at "st")
local macro_rules | `(tactic| walk_at "is") => `(tactic| simp only [Option.isSome_some, Option.isSome_none, Bool.not_true, Bool.not_false])
/-! The law's own reckoning: the gaps' table. -/
section
variable {P : Program} {w : World} {K : PySem.W.Frag} {mg : Str → Option Value} {base : Heap}
abbrev gk (x y : Str) : List Key := [Sum.inr x, Sum.inr y]
def GapAt (H : Hp) (d : Addr) (rs : List (Addr × Rw)) : Prop := ∃ kvs : List (List Key × V), H d = some (.dT kvs) ∧ ∀ x ∈ rwN rs, ∀ y ∈ rwN rs, valV kvs (gk x y) = some (.int (Nt.K (revT rs) x y))
theorem GapAt.same {H H' : Hp} {d : Addr} {rs : List (Addr × Rw)} (s : Same H H') (h : GapAt H d rs) : GapAt H' d rs := let ⟨kvs, h1, h2⟩ := h; ⟨kvs, s _ _ h1, h2⟩
theorem ErAt.same {H H' : Hp} {d : Addr} {rs : List (Addr × Rw)} (s : Same H H') (h : ErAt H d rs) : ErAt H' d rs := let ⟨kvs, h1, h2⟩ := h; ⟨kvs, s _ _ h1, h2⟩
theorem rwN_snoc {rs : List (Addr × Rw)} {i : Nat} (hi : i < rs.length) {x : Str} (h : x ∈ rwN (rs.take (i + 1))) : x ∈ rwN (rs.take i) ∨ x = rs[i].2.name := by
  rw [List.take_succ, List.getElem?_eq_getElem hi, rwN, List.map_append, List.mem_append] at h
  rcases h with h | h
  · exact .inl h
  · exact .inr (List.mem_singleton.mp h)
def sp_lgaps : Sp := fun vs H Q _ => ∃ (a : Addr) (rs : List (Addr × Rw)), vs = [.ref a] ∧ RL H a rs ∧ RowsOk rs ∧ ∀ d H', Same H H' → GapAt H' d rs → Q (.ref d) H'
theorem ok_law_gaps (T : Tx K mg) : O__law_gaps P w K mg base 4 sp_lgaps := by
  have G__law_gap : O__law_gap P w K mg base 3 sp_lgap := ok_law_gap T
  refine T.F__law_gaps.ok sc__law_gaps (fun vs H Q E h => ?_) (fun cdv A outer s H vs Q E hr h => ?_)
  · obtain ⟨a, rs, rfl, _⟩ := h
    rfl
  · obtain ⟨a, rs, rfl, hl, ok, k⟩ := h
    refine ⟨_, PSs.nox ((pss_cons (ps_set (i := 1) sc__law_gaps.nd rfl (Or.inl rfl) (pe_dnewT)) (pss_cons (ps_for PassesOwn.never rfl (show PI _ _ _ (iList K _) from pi_list (pv 0)) (pg_name (i := 2) sc__law_gaps.nd rfl (Or.inl rfl)) (pss_one (ps_for PassesOwn.never rfl (show PI _ _ _ (iList K _) from pi_list (pv 0)) (pg_name (i := 3) sc__law_gaps.nd rfl (Or.inl rfl)) (pss_one (ps_dput (hu_of hr) (pv 1) (pe_tup (pa_cons (pe_ix (Kw.ixT K) (pv 2) (pe_int) (fun _ _ => rfl)) (pa_cons (pe_ix (Kw.ixT K) (pv 3) (pe_int) (fun _ _ => rfl)) pa_nil))) (pe_ix (Kw.ixT K) (pe_call G__law_gap (hr.mono (by decide)) rfl T.g__law_gap T.F__law_gap.kp T.b__law_gap .nil pass0 (pa_cons (pv 0) (pa_cons (pe_ix (Kw.ixT K) (pv 2) (pe_int) (fun _ _ => rfl)) (pa_cons (pe_ix (Kw.ixT K) (pv 3) (pe_int) (fun _ _ => rfl)) pa_nil)))) (pe_int) (fun _ _ => rfl)) rfl))))) (pss_one (ps_ret (pv 1)))))), ?_⟩
    have hlen := ok.len
    obtain ⟨h1, h2⟩ := id hl
    walk_at "go"
    intro d nd
    walk_at "go"
    have nad : a ≠ d := ne_of_none h1 nd
    refine ⟨a, rfl, ⟨_, SqL.of (show (upd H d _) a = some (.lst (rs.map fun q => V.ref q.1)) by rw [upd_ne nad]; exact h1)⟩, VrX.for_J (n := rs.length) (fun i σ H' => Same H H' ∧ (∃ kvs : List (List Key × V), H' d = some (.dT kvs) ∧ kvs.length ≤ i * 12 ∧ ∀ x ∈ rwN (rs.take i), ∀ y ∈ rwN rs, valV kvs (gk x y) = some (.int (Nt.K (revT rs) x y))) ∧ ∃ v w, σ = [some (.ref a), some (.ref d), v, w])
      ⟨Sx.same_new (Sx.same_rfl _) nd, ⟨[], upd_same, Nat.le_refl _, fun x hx => by cases hx⟩, _, _, rfl⟩
      (fun _ _ h => ⟨_, SqL.of (h.1 _ _ h1), by simp⟩) (fun i _ _ hi h => ⟨_, V.ref rs[i].1, SqL.of (h.1 _ _ h1), by simp [hi]⟩) ?_ ?_⟩
    · rintro i v σ H1 H2 hi ⟨s1, ⟨kv0, d1, d2, d3⟩, v1, v2, rfl⟩ ⟨rfl, hv⟩
      have hv2 := hv _ (SqL.of (s1 _ _ h1))
      rw [List.getElem?_map, List.getElem?_eq_getElem hi] at hv2
      obtain rfl : V.ref rs[i].1 = v := Option.some.inj hv2
      have hm : rs[i] ∈ rs := List.getElem_mem hi
      have hn : rs[i].2.name ∈ rwN rs := List.mem_map.mpr ⟨_, hm, rfl⟩
      walk_at "go"
      refine ⟨a, rfl, ⟨_, SqL.of (s1 _ _ h1)⟩, VrX.for_J (n := rs.length) (fun j σ H' => Same H H' ∧ (∃ kvs : List (List Key × V), H' d = some (.dT kvs) ∧ kvs.length ≤ i * 12 + j ∧ (∀ x ∈ rwN (rs.take i), ∀ y ∈ rwN rs, valV kvs (gk x y) = some (.int (Nt.K (revT rs) x y))) ∧ ∀ y ∈ rwN (rs.take j), valV kvs (gk rs[i].2.name y) = some (.int (Nt.K (revT rs) rs[i].2.name y))) ∧ ∃ w, σ = [some (.ref a), some (.ref d), some (.ref rs[i].1), w])
        ⟨s1, ⟨kv0, d1, d2, d3, fun x hx => by cases hx⟩, _, rfl⟩
        (fun _ _ h => ⟨_, SqL.of (h.1 _ _ h1), by simp⟩) (fun i _ _ hi h => ⟨_, V.ref rs[i].1, SqL.of (h.1 _ _ h1), by simp [hi]⟩) ?_ ?_⟩
      · rintro j v σ H3 H4 hj ⟨s3, ⟨kvs, c1, c2, c3, c4⟩, v3, rfl⟩ ⟨rfl, hv⟩
        have hv2 := hv _ (SqL.of (s3 _ _ h1))
        rw [List.getElem?_map, List.getElem?_eq_getElem hj] at hv2
        obtain rfl : V.ref rs[j].1 = v := Option.some.inj hv2
        have hmj : rs[j] ∈ rs := List.getElem_mem hj
        have hnj : rs[j].2.name ∈ rwN rs := List.mem_map.mpr ⟨_, hmj, rfl⟩
        have q1 := s3 _ _ (h2 _ hm)
        have q2 := s3 _ _ (h2 _ hmj)
        walk_at "go"
        refine Sx.ixT (SqT.of q1) rfl ?_
        walk_at "go"
        refine Sx.ixT (SqT.of q2) rfl ?_
        walk_at "go"
        refine ⟨a, rs, rs[i].2.name, rs[j].2.name, rfl, hl.same s3, ok, hn, hnj, fun t p H5 s5 ht => ?_⟩
        walk_at "go"
        refine Sx.ixT (SqT.of ht) (v := .int _) (atI_nat (j := 0) rfl) ?_
        walk_at "go"
        refine Sx.ixT (SqT.of (s5 _ _ q1)) rfl ?_
        walk_at "go"
        refine Sx.ixT (SqT.of (s5 _ _ q2)) rfl ?_
        walk_at "go"
        refine Sx.nw (by show 2 ≤ _; decide) fun t2 nt => ?_
        have c15 := s5 _ _ c1
        have e6 := Sx.same_tr s3 s5
        refine ⟨d, _, rfl, DPut.t (k := gk rs[i].2.name rs[j].2.name) (by rw [upd_ne (ne_of_none c15 nt)]; exact c15) upd_same (by rw [sizeLine_eq]; omega), ?_⟩
        walk_at "go"
        refine ⟨fun b o e => ?_, ⟨_, upd_same, Nat.le_trans (length_putK _ _ _) (Nat.succ_le_succ c2), fun x hx y hy => ?_, fun y hy => ?_⟩, _, rfl⟩
        · rw [upd_ne (ne_of_none e nd), upd_ne (ne_of_none (e6 _ _ e) nt)]
          exact e6 _ _ e
        · rw [valV_put]
          by_cases hc : gk x y = gk rs[i].2.name rs[j].2.name
          · rw [if_pos hc]
            have := List.cons.inj hc
            have e1 := Sum.inr.inj this.1
            have e2 := Sum.inr.inj (List.cons.inj this.2).1
            rw [e1, e2]
          · rw [if_neg hc]
            exact c3 x hx y hy
        · rw [valV_put]
          by_cases hc : y = rs[j].2.name
          · rw [if_pos (by rw [hc]), hc]
          · rw [if_neg (fun z => hc (Sum.inr.inj (List.cons.inj (List.cons.inj z).2).1))]
            exact c4 y ((rwN_snoc hj hy).resolve_right hc)
      · rintro σ H3 ⟨s3, ⟨kvs, c1, c2, c3, c4⟩, v3, rfl⟩
        rw [List.take_length] at c4
        walk_at "go"
        refine ⟨s3, ⟨kvs, c1, by omega, fun x hx y hy => ?_⟩, _, _, rfl⟩
        rcases rwN_snoc hi hx with z | z
        · exact c3 x z y hy
        · rw [z]
          exact c4 y hy
    · rintro σ H1 ⟨s1, ⟨kvs, d1, d2, d3⟩, v, v2, rfl⟩
      rw [List.take_length] at d3
      walk_at "go"
      exact k d H1 s1 ⟨kvs, d1, d3⟩
/-! ### _law_lead -/
def sp_llead : Sp := fun vs H Q _ => ∃ (g e f t1 t2 : Addr) (rs : List (Addr × Rw)) (r : Nt.Rs) (p q : Str × Int), vs = [.ref g, .ref e, .ref f, .ref t1, .ref t2] ∧ GapAt H g rs ∧ ErAt H e rs ∧ LrAt H f r ∧ Nt.RsOk r ∧ H t1 = some (.tup [.str p.1, .int p.2]) ∧ H t2 = some (.tup [.str q.1, .int q.2]) ∧ p.1 ∈ rwN rs ∧ q.1 ∈ rwN rs ∧
  ∀ H', Same H H' → Q (.bl (leadB rs r p q)) H'
end
end Wk

set_option Elab.async false
set_option linter.all false
set_option maxRecDepth 100000
set_option maxHeartbeats 2000000
namespace Wk
open PySem PySem.Spec PyProof.Rows L2 NdefX SuX Hk
local macro_rules | `(tactic| walk_at "st") => `(tactic| first
  | with_reducible refine Sx.ret ?_
  | with_reducible refine Sx.retN ?_
  | with_reducible refine Sx.seq ?_
  | with_reducible refine Sx.next ?_
  | with_reducible refine Sx.brk ?_
  | with_reducible refine Sx.cont ?_
  | with_reducible refine Sx.drop ?_
  | with_reducible refine Sx.asg ?_
  | with_reducible refine Sx.gname ?_
  | with_reducible refine Sx.ifS ?_
  | with_reducible refine Sx.var ?_
  | with_reducible refine Sx.con ?_
  | with_reducible refine Sx.op ?_
  | with_reducible refine Sx.un ?_
  | with_reducible refine Sx.cb ?_
  | with_reducible refine Sx.cons ?_
  | with_reducible refine Sx.nil ?_
  | with_reducible refine Sx.call ?_
  | with_reducible refine Sx.test ?_
  | with_reducible refine Sx.tb_ ?_
  | with_reducible refine Sx.bl ?_
  | with_reducible refine Sx.and_ ?_
  | with_reducible refine Sx.or_ ?_
  | with_reducible refine Sx.not_ ?_
  | with_reducible refine Sx.andV ?_
  | with_reducible refine Sx.orV ?_
  | with_reducible refine Sx.notV ?_
  | with_reducible refine Sx.ife ?_
  | with_reducible refine Sx.i0 ?_
  | with_reducible refine Sx.iU ?_
  | with_reducible refine Sx.eqI ?_
  | with_reducible refine Sx.eqS ?_
  | with_reducible refine Sx.neI ?_
  | with_reducible refine Sx.neS ?_
  | with_reducible refine Sx.isN' ?_
  | with_reducible refine Sx.chain ?_
  | with_reducible refine Sx.aug ?_
  | with_reducible refine Sx.ipI' ?_
  | with_reducible refine Sx.ifT ?_
  | with_reducible refine Sx.ifF ?_
  | with_reducible refine Sx.ifnF ?_
  | with_reducible refine Sx.ifnT ?_
  | with_reducible refine Sx.tup ?_
  | with_reducible refine Sx.lst ?_
  | with_reducible refine Sx.fld ?_
  | with_reducible refine Sx.sfld ?_
  | with_reducible refine Sx.meth ?_
  | with_reducible refine Sx.app ?_
  | with_reducible refine Sx.gcons ?_
  | with_reducible refine Sx.gnil ?_
  | with_reducible refine Sx.dget ?_
  | with_reducible refine Sx.din ?_
  | with_reducible refine Sx.dnin ?_
  | with_reducible refine Sx.dput ?_
  | with_reducible refine Sx.forS ?_
  | with_reducible refine Sx.ikeys ?_
  | with_reducible refine Sx.ienumT ?_
  | with_reducible refine Sx.scT ?_
  | with_reducible refine Sx.dc2 ?_
  | with_reducible refine Sx.tru ?_
  | with_reducible refine Sx.mv ?_
  | with_reducible refine Sx.cv ?_
  | with_reducible refine Sx.cw ?_
  | with_reducible refine Sx.join ?_
  | with_reducible refine Sx.lc ?_
  | with_reducible refine Sx.istr ?_
  | with_reducible refine Sx.ilist ?_
  | with_reducible refine Sx.itup ?_
  | with_reducible refine Sx.irng1 ?_
  | with_reducible refine Sx.irng2 ?_
  | with_reducible refine Sx.ienum ?_
  | with_reducible refine Sx.izip ?_
  | with_reducible refine Sx.irev ?_
  | with_reducible refine Sx.iitems ?_
  | with_reducible refine Sx.yes ?_
  | with_reducible refine Sx.js_cons ?_
  | with_reducible refine Sx.js_nil ?_
  | with_reducible refine Sx.fmt ?_
  | with_reducible refine Sx.isi_int ?_
  | with_reducible refine Sx.isi_intb ?_
  | with_reducible refine Sx.isi_str ?_)
local macro_rules | `(tactic| walk_at "go") => `(tactic| repeat walk_at "st")
local macro_rules | `(tactic| walk_at "is") => `(tactic| simp only [Option.isSome_some, Option.isSome_none, Bool.not_true, Bool.not_false])
/-! The law's own reckoning: who leads. -/
section
variable {P : Program} {w : World} {K : PySem.W.Frag} {mg : Str → Option Value} {base : Heap}
theorem ok_law_lead (T : Tx K mg) : O__law_lead P w K mg base 4 sp_llead := by
  have G__law_after : O__law_after P w K mg base 3 sp_lra := ok_law_after T
  refine T.F__law_lead.ok sc__law_lead (fun vs H Q E h => ?_) (fun cdv A outer s H vs Q E hr h => ?_)
  · obtain ⟨g, e, f, t1, t2, rs, r, p, q, rfl, _⟩ := h
    rfl
  · obtain ⟨g, e, f, t1, t2, rs, r, p, q, rfl, hg, he, hf, ok, h1, h2, hp, hq, k⟩ := h
    refine ⟨_, PSs.nox ((pss_one (ps_ret (pe_cmpR op_gt (pe_op op_sub (pe_ix (Kw.ixT K) (pv 4) (pe_int) (fun _ _ => rfl)) (pe_dget (hu_of hr) (pv 1) (pe_ix (Kw.ixT K) (pv 4) (pe_int) (fun _ _ => rfl)) (fun _ _ => rfl))) (pe_op op_add (pe_call G__law_after (hr.mono (by decide)) rfl T.g__law_after T.F__law_after.kp T.b__law_after .nil pass0 (pa_cons (pv 2) (pa_cons (pe_op op_add (pe_ix (Kw.ixT K) (pv 3) (pe_int) (fun _ _ => rfl)) (pe_dget (hu_of hr) (pv 1) (pe_ix (Kw.ixT K) (pv 3) (pe_int) (fun _ _ => rfl)) (fun _ _ => rfl))) pa_nil))) (pe_dget (hu_of hr) (pv 0) (pe_tup (pa_cons (pe_ix (Kw.ixT K) (pv 3) (pe_int) (fun _ _ => rfl)) (pa_cons (pe_ix (Kw.ixT K) (pv 4) (pe_int) (fun _ _ => rfl)) pa_nil))) (fun _ _ => rfl))) (nomark _))))), ?_⟩
    obtain ⟨kvg, g1, g2⟩ := id hg
    obtain ⟨kve, e1, e2⟩ := id he
    walk_at "go"
    refine Sx.ixT (SqT.of h2) (v := .int q.2) (atI_nat (j := 1) rfl) ?_
    walk_at "go"
    refine Sx.ixT (SqT.of h2) (v := .str q.1) (atI_nat (j := 0) rfl) ?_
    refine Sx.dgS e1 (e2 _ hq) ?_
    walk_at "go"
    refine Sx.ixT (SqT.of h1) (v := .int p.2) (atI_nat (j := 1) rfl) ?_
    walk_at "go"
    refine Sx.ixT (SqT.of h1) (v := .str p.1) (atI_nat (j := 0) rfl) ?_
    refine Sx.dgS e1 (e2 _ hp) ?_
    walk_at "go"
    refine ⟨f, _, r, rfl, hf, ok, fun H1 s1 => ?_⟩
    walk_at "go"
    refine Sx.ixT (SqT.of (s1 _ _ h1)) (v := .str p.1) (atI_nat (j := 0) rfl) ?_
    walk_at "go"
    refine Sx.ixT (SqT.of (s1 _ _ h2)) (v := .str q.1) (atI_nat (j := 0) rfl) ?_
    walk_at "go"
    refine Sx.nw (by show 2 ≤ _; decide) fun t nt => ?_
    refine ⟨g, _, rfl, by rw [← g2 p.1 hp q.1 hq]; exact DGet.t (k := gk p.1 q.1) (by rw [upd_ne (ne_of_none (s1 _ _ g1) nt)]; exact s1 _ _ g1) upd_same, ?_⟩
    walk_at "go"
    exact k _ (Sx.same_tr s1 (Sx.same_new (Sx.same_rfl _) nt))
end
end Wk

set_option Elab.async false
set_option linter.all false
set_option maxRecDepth 100000
set_option maxHeartbeats 2000000
namespace Wk
open PySem PySem.Spec PyProof.Rows L2 NdefX SuX Hk
local macro_rules | `(tactic| walk_at "st") => `(tactic| first
  | with_reducible refine Sx.ret ?_
  | with_reducible refine Sx.retN ?_
  | with_reducible refine Sx.seq ?_
  | with_reducible refine Sx.next ?_
  | with_reducible refine Sx.brk ?_
  | with_reducible refine Sx.cont ?_
  | with_reducible refine Sx.drop ?_
  | with_reducible refine Sx.asg ?_
  | with_reducible refine Sx.gname ?_
  | with_reducible refine Sx.ifS ?_
  | with_reducible refine Sx.var ?_
  | with_reducible refine Sx.con ?_
  | with_reducible refine Sx.op ?_
  | with_reducible refine Sx.un ?_
  | with_reducible refine Sx.cb ?_
  | with_reducible refine Sx.cons ?_
  | with_reducible refine Sx.nil ?_
  | with_reducible refine Sx.call ?_
  | with_reducible refine Sx.test ?_
  | with_reducible refine Sx.tb_ ?_
  | with_reducible refine Sx.bl ?_
  | with_reducible refine Sx.and_ ?_
  | with_reducible refine Sx.or_ ?_
  | with_reducible refine Sx.not_ ?_
  | with_reducible refine Sx.andV ?_
  | with_reducible refine Sx.orV ?_
  | with_reducible refine Sx.notV ?_
  | with_reducible refine Sx.ife ?_
  | with_reducible refine Sx.i0 ?_
  | with_reducible refine Sx.iU ?_
  | with_reducible refine Sx.eqI ?_
  | with_reducible refine Sx.eqS ?_
  | with_reducible refine Sx.neI ?_
  | with_reducible refine Sx.neS ?_
  | with_reducible refine Sx.isN' ?_
  | with_reducible refine Sx.chain ?_
  | with_reducible refine Sx.aug ?_
  | with_reducible refine Sx.ipI' ?_
  | with_reducible refine Sx.ifT ?_
  | with_reducible refine Sx.ifF ?_
  | with_reducible refine Sx.ifnF ?_
  | with_reducible refine Sx.ifnT ?_
  | with_reducible refine Sx.tup ?_
  | with_reducible refine Sx.lst ?_
  | with_reducible refine Sx.fld ?_
  | with_reducible refine Sx.sfld ?_
  | with_reducible refine Sx.meth ?_
  | with_reducible refine Sx.app ?_
  | with_reducible refine Sx.gcons ?_
  | with_reducible refine Sx.gnil ?_
  | with_reducible refine Sx.dget ?_
  | with_reducible refine Sx.din ?_
  | with_reducible refine Sx.dnin ?_
  | with_reducible refine Sx.dput ?_
  | with_reducible refine Sx.forS ?_
  | with_reducible refine Sx.ikeys ?_
  | with_reducible refine Sx.ienumT ?_
  | with_reducible refine Sx.scT ?_
  | with_reducible refine Sx.dc2 ?_
  | with_reducible refine Sx.tru ?_
  | with_reducible refine Sx.mv ?_
  | with_reducible refine Sx.cv ?_
  | with_reducible refine Sx.cw ?_
  | with_reducible refine Sx.join ?_
  | with_reducible refine Sx.lc ?_
  | with_reducible refine Sx.istr ?_
  | with_reducible refine Sx.ilist ?_
  | with_reducible refine Sx.itup ?_
  | with_reducible refine Sx.irng1 ?_
  | with_reducible refine Sx.irng2 ?_
  | with_reducible refine Sx.ienum ?_
  | with_reducible refine Sx.izip ?_
  | with_reducible refine Sx.irev ?_
  | with_reducible refine Sx.iitems ?_
  | with_reducible refine Sx.yes ?_
  | with_reducible refine Sx.js_cons ?_
  | with_reducible refine Sx.js_nil ?_
  | with_reducible refine Sx.fmt ?_
  | with_reducible refine Sx.isi_int ?_
  | with_reducible refine Sx.isi_intb ?_
  | with_reducible refine Sx.isi_str ?_)
local macro_rules | `(tactic| walk_at "go") => `(tactic| repeat walk_at "st")
local macro_rules | `(tactic| walk_at "is") => `(tactic| simp only [Option.isSome_some, Option.isSome_none, Bool.not_true, Bool.not_false])
/-! The law's own checks: the greatest apart set's size. -/
section
variable {P : Program} {w : World} {K : PySem.W.Frag} {mg : Str → Option Value} {base : Heap}
/-- the law's table of who leads -/
def LdAt (H : Hp) (a : Addr) (L : Nat → Nat → Bool) (n : Nat) : Prop := ∃ ls : List Addr, H a = some (.lst (ls.map V.ref)) ∧ ls.length = n ∧ ∀ j, j < n → ∃ l, ls[j]? = some l ∧ H l = some (.lst ((List.range n).map fun k => V.bl (L j k)))
theorem LdAt.same {H H' : Hp} {a : Addr} {L : Nat → Nat → Bool} {n : Nat} (s : Same H H') (h : LdAt H a L n) : LdAt H' a L n := let ⟨ls, h1, h2, h3⟩ := h; ⟨ls, s _ _ h1, h2, fun j hj => let ⟨l, z1, z2⟩ := h3 j hj; ⟨l, z1, s _ _ z2⟩⟩
theorem LdAt.row {H : Hp} {a : Addr} {L : Nat → Nat → Bool} {n : Nat} (h : LdAt H a L n) {j k : Nat} (hj : j < n) (hk : k < n) : ∃ xs l ys, H a = some (.lst xs) ∧ atI xs (j : Int) = some (.ref l) ∧ H l = some (.lst ys) ∧ atI ys (k : Int) = some (.bl (L j k)) := by
  obtain ⟨ls, h1, h2, h3⟩ := h
  obtain ⟨l, z1, z2⟩ := h3 j hj
  exact ⟨_, l, _, h1, atI_nat (by rw [List.getElem?_map, z1]; rfl), z2, atI_nat (by rw [List.getElem?_map, List.getElem?_range hk]; rfl)⟩
theorem grow_lt {ld : Nat → Nat → Bool} : ∀ k, ∀ row ∈ Ma.grow ld k, row.length ≤ k ∧ ∀ x ∈ row, x < k
  | 0, row, h => by
    rw [List.mem_singleton.mp h]
    exact ⟨Nat.le_refl _, fun x hx => by cases hx⟩
  | k + 1, row, h => by
    rcases List.mem_append.mp (show row ∈ Ma.grow ld k ++ ((Ma.grow ld k).filter (Ma.rowOk ld k)).map fun row => row ++ [k] from h) with z | z
    · obtain ⟨a1, a2⟩ := grow_lt k row z
      exact ⟨by omega, fun x hx => by have := a2 x hx; omega⟩
    · obtain ⟨r0, h1, h2⟩ := List.mem_map.mp z
      obtain ⟨a1, a2⟩ := grow_lt k r0 (List.mem_filter.mp h1).1
      subst h2
      refine ⟨by simp; omega, fun x hx => ?_⟩
      rcases List.mem_append.mp hx with y | y
      · have := a2 x y
        omega
      · rw [List.mem_singleton.mp y]
        omega
theorem grow_pos {ld : Nat → Nat → Bool} : ∀ k, 0 < (Ma.grow ld k).length
  | 0 => Nat.zero_lt_one
  | k + 1 => by
    have := grow_pos (ld := ld) k
    show 0 < (Ma.grow ld k ++ ((Ma.grow ld k).filter (Ma.rowOk ld k)).map fun row => row ++ [k]).length
    rw [List.length_append]
    omega
/-- a list of lists of indexes -/
def FdAt (H : Hp) (a : Addr) (Ls : List (List Nat)) : Prop := ∃ ls : List Addr, H a = some (.lst (ls.map V.ref)) ∧ ls.length = Ls.length ∧ ∀ (i : Nat) (l : Addr) (r : List Nat), ls[i]? = some l → Ls[i]? = some r → H l = some (.lst (RpX.vn r))
theorem FdAt.same {H H' : Hp} {a : Addr} {Ls : List (List Nat)} (s : Same H H') (h : FdAt H a Ls) : FdAt H' a Ls := let ⟨ls, h1, h2, h3⟩ := h; ⟨ls, s _ _ h1, h2, fun i l r z1 z2 => s _ _ (h3 i l r z1 z2)⟩
theorem FdAt.at {H : Hp} {a : Addr} {Ls : List (List Nat)} (h : FdAt H a Ls) {i : Nat} (hi : i < Ls.length) : ∃ xs l, H a = some (.lst xs) ∧ xs.length = Ls.length ∧ xs[i]? = some (.ref l) ∧ H l = some (.lst (RpX.vn Ls[i])) := by
  obtain ⟨ls, h1, h2, h3⟩ := h
  have hl : i < ls.length := by omega
  exact ⟨_, ls[i], h1, by rw [List.length_map, h2], by rw [List.getElem?_map, List.getElem?_eq_getElem hl]; rfl, h3 i _ _ (List.getElem?_eq_getElem hl) (List.getElem?_eq_getElem hi)⟩
abbrev gMore (L : Nat → Nat → Bool) (k i : Nat) : List (List Nat) := (((Ma.grow L k).take i).filter (Ma.rowOk L k)).map fun row => row ++ [k]
def sp_lgreat : Sp := fun vs H Q _ => ∃ (a : Addr) (n : Nat) (L : Nat → Nat → Bool), vs = [.ref a, .int n] ∧ LdAt H a L n ∧ n < 9 ∧ ∀ H' (m : Nat), Same H H' → (∃ row ∈ Ma.grow L n, row.length = m) → (∀ row ∈ Ma.grow L n, row.length ≤ m) → Q (.int m) H'
theorem ok_law_greatest (T : Tx K mg) : O__law_greatest P w K mg base 1 sp_lgreat := by
  refine T.F__law_greatest.ok sc__law_greatest (fun vs H Q E h => ?_) (fun cdv A outer s H vs Q E hr h => ?_)
  · obtain ⟨a, n, L, rfl, _⟩ := h
    rfl
  · obtain ⟨a, n, L, rfl, hL, hn, k⟩ := h
    refine ⟨_, PSs.nox ((pss_cons (ps_set (i := 2) sc__law_greatest.nd rfl (Or.inl rfl) (pe_lst (pa_cons (pe_lst pa_nil) pa_nil))) (pss_cons (ps_for PassesOwn.never rfl (pi_range1 (by rfl) T.f_range (pa_cons (pv 1) pa_nil)) (pg_name (i := 3) sc__law_greatest.nd rfl (Or.inr rfl)) (pss_cons (ps_set (i := 4) sc__law_greatest.nd rfl (Or.inl rfl) (pe_lst pa_nil)) (pss_cons (ps_for PassesOwn.never rfl (show PI _ _ _ (iList K _) from pi_list (pv 2)) (pg_name (i := 5) sc__law_greatest.nd rfl (Or.inl rfl)) (pss_one (ps_if (pt_not (show PT _ _ (Kw.tTru K _) from pt_truth (pe_lc (own := [("_law_j", 6)]) (g := gName 6) rfl sc__law_greatest.nd (show PI _ _ _ (iList K _) from pi_list (pv 5)) (blkOk_by (own := [("_law_j", 6)]) (N := N__law_greatest) (sc := defScope sd__law_greatest) (by decide +kernel)) (fun _ _ _ _ _ => (pg_name (i := 6) sc__law_greatest.nd rfl (Or.inl rfl))) (fun _ _ _ _ _ => (pts_one (PW.pt (pw_or (pt_val (pe_ix (Kw.ixL K) (pe_ix (Kw.ixL K) (pv 0) (pv 6) (fun _ _ => rfl)) (pv 3) (fun _ _ => rfl))) (pw_or1 (pt_val (pe_ix (Kw.ixL K) (pe_ix (Kw.ixL K) (pv 0) (pv 3) (fun _ _ => rfl)) (pv 6) (fun _ _ => rfl)))))))) (fun _ _ _ _ _ => (pv 6))) (by intro _; rfl))) (pss_one (ps_expr (show PE _ _ (tBM K _ _ _ _) from pe_bm PySem.F.plainAttrs_list PySem.F.slot_list_append PySem.F.type_list_append mt_append (pv 4) (pa_cons (pe_op op_cat (pv 5) (pe_lst (pa_cons (pv 3) pa_nil))) pa_nil)))) pss_nil))) (pss_one (ps_set (i := 2) sc__law_greatest.nd rfl (Or.inl rfl) (pe_op op_cat (pv 2) (pv 4))))))) (pss_one (ps_ret (pe_callB (Kw.max K rfl) (by rfl) T.f_max (by decide +kernel) (pa_cons (pe_lc (own := [("_law_row_here", 5)]) (g := gName 5) (tt := tYes) rfl sc__law_greatest.nd (show PI _ _ _ (iList K _) from pi_list (pv 2)) (blkOk_by (own := [("_law_row_here", 5)]) (N := N__law_greatest) (sc := defScope sd__law_greatest) (by decide +kernel)) (fun _ _ _ _ _ => (pg_name (i := 5) sc__law_greatest.nd rfl (Or.inl rfl))) (fun _ _ _ _ _ => pts_nil) (fun _ _ _ _ _ => (pe_callB (Kw.len K) (by rfl) T.f_len (by decide +kernel) (pa_cons (pv 5) pa_nil)))) pa_nil))))))), ?_⟩
    walk_at "go"
    refine Sx.nw (by show 0 ≤ _; decide) fun p0 np0 => ?_
    walk_at "go"
    refine Sx.nw (by show 1 ≤ _; decide) fun p1 np1 => ?_
    have s0 : Same H (upd (upd H p0 (.lst [])) p1 (.lst [V.ref p0])) := Sx.same_new (Sx.same_new (Sx.same_rfl _) np0) (Sx.new_none (Sx.same_new (Sx.same_rfl _) np0) np1)
    have f0 : FdAt (upd (upd H p0 (.lst [])) p1 (.lst [V.ref p0])) p1 (Ma.grow L 0) := by
      refine ⟨[p0], upd_same, rfl, fun i l r z1 z2 => ?_⟩
      cases i with
      | zero =>
        obtain rfl : p0 = l := Option.some.inj z1
        obtain rfl : [] = r := Option.some.inj z2
        rw [upd_ne (ne_of_none upd_same np1), upd_same]
        rfl
      | succ i => cases z1
    generalize upd (upd H p0 (.lst [])) p1 (.lst [V.ref p0]) = H0 at s0 f0
    walk_at "go"
    refine ⟨(n : Int), rfl, by omega, by omega, VrX.for_J (n := n) (fun i σ H' => Same H H' ∧ (∃ pf, FdAt H' pf (Ma.grow L i) ∧ ∃ v3 v4 v5 v6, σ = [some (.ref a), some (.int n), some (.ref pf), v3, v4, v5, v6]))
      ⟨s0, p1, f0, _, _, _, _, rfl⟩ (fun _ _ _ => by show (n : Int).toNat ≤ _; omega) (fun i _ _ hi _ => by show i < (n : Int).toNat; omega) ?_ ?_⟩
    · rintro q y σ H1 H2 hq ⟨s1, pf, hf, v3, v4, v5, v6, rfl⟩ ⟨rfl, rfl⟩
      rw [Int.zero_add]
      have hg := Ma.grow_len L q
      have hg2 : 2 ^ q ≤ 2 ^ 8 := Nat.pow_le_pow_right (by decide) (by omega)
      walk_at "go"
      refine Sx.nw (by show 0 ≤ _; decide) fun pm nm => ?_
      walk_at "go"
      have hf1 : FdAt (upd H2 pm (.lst [])) pf (Ma.grow L q) := hf.same (Sx.same_new (Sx.same_rfl _) nm)
      obtain ⟨ls, hf2, hf3, hf4⟩ := id hf
      have hls : ∀ {H' : Hp}, Same H2 H' → SqL K H' pf (ls.map V.ref) := fun s => SqL.of (s _ _ hf2)
      refine ⟨pf, rfl, ⟨_, hls (Sx.same_new (Sx.same_rfl _) nm)⟩, VrX.for_J (n := (Ma.grow L q).length) (fun i σ H' => (Same H2 H' ∧ ∃ ms : List Addr, H' pm = some (.lst (ms.map V.ref)) ∧ ms.length = (gMore L q i).length ∧ ∀ (j : Nat) (l : Addr) (r : List Nat), ms[j]? = some l → (gMore L q i)[j]? = some r → l ≠ pm ∧ H' l = some (.lst (RpX.vn r))) ∧ ∃ v5 v6, σ = [some (.ref a), some (.int n), some (.ref pf), some (.int q), some (.ref pm), v5, v6])
        ⟨⟨Sx.same_new (Sx.same_rfl _) nm, [], upd_same, rfl, fun j l r z => by cases z⟩, _, _, rfl⟩
        (fun _ _ h => ⟨_, hls h.1.1, by rw [List.length_map, hf3]; exact Nat.le_refl _⟩) (fun i _ _ hi h => ⟨_, V.ref (ls[i]'(by omega)), hls h.1.1, by rw [List.getElem?_map, List.getElem?_eq_getElem (by omega)]; rfl⟩) ?_ ?_⟩
      · rintro i y σ H3 H4 hi ⟨⟨s3, ms, m1, m2, m3⟩, v5, v6, rfl⟩ ⟨rfl, hy⟩
        have hil : i < ls.length := by omega
        have hy2 := hy _ (hls s3)
        rw [List.getElem?_map, List.getElem?_eq_getElem hil] at hy2
        obtain rfl : V.ref ls[i] = y := Option.some.inj hy2
        have hrow := s3 _ _ (hf4 i _ _ (List.getElem?_eq_getElem hil) (List.getElem?_eq_getElem hi))
        have hrm : (Ma.grow L q)[i] ∈ Ma.grow L q := List.getElem_mem hi
        obtain ⟨rl1, rl2⟩ := grow_lt q _ hrm
        have etk : gMore L q (i + 1) = gMore L q i ++ (if Ma.rowOk L q (Ma.grow L q)[i] = true then [(Ma.grow L q)[i] ++ [q]] else []) := by
          show List.map _ (List.filter _ (List.take (i + 1) _)) = _
          rw [List.take_succ, List.filter_append, List.getElem?_eq_getElem hi, List.map_append]
          show _ ++ List.map _ (List.filter _ [(Ma.grow L q)[i]]) = _
          rw [List.filter_cons]
          split <;> rfl
        have mlen : (gMore L q i).length ≤ 256 := by
          rw [List.length_map]
          refine Nat.le_trans (List.length_filter_le _ _) ?_
          rw [List.length_take]
          omega
        generalize (Ma.grow L q)[i] = row at *
        generalize ls[i] = lr at *
        walk_at "go"
        refine ⟨lr, rfl, ⟨_, SqL.of hrow⟩, fun D nD => ?_⟩
        have nDm : pm ≠ D := ne_of_none m1 nD
        refine VrX.lc_J (n := row.length) (fun j H' => Same H4 H' ∧ H' D = some (.lst (RpX.vn ((row.take j).filter fun x => L x q || L q x)))) ⟨Sx.same_new (Sx.same_rfl _) nD, upd_same⟩
          (fun _ h => ⟨_, SqL.of (h.1 _ _ hrow), by simp⟩) (fun j _ hj h => ⟨_, V.int (row[j] : Nat), SqL.of (h.1 _ _ hrow), by rw [List.getElem?_map, List.getElem?_eq_getElem hj]; rfl⟩) ?_ ?_
        · rintro j y H5 H6 hj ⟨s5, hD⟩ ⟨rfl, hy⟩
          have hy2 := hy _ (SqL.of (s5 _ _ hrow))
          rw [List.getElem?_map, List.getElem?_eq_getElem hj] at hy2
          obtain rfl : V.int (row[j] : Nat) = y := Option.some.inj hy2
          have hx := rl2 _ (List.getElem_mem hj)
          have ex : ((row.take (j + 1)).filter fun x => L x q || L q x) = ((row.take j).filter fun x => L x q || L q x) ++ (if (L row[j] q || L q row[j]) = true then [row[j]] else []) := by
            rw [List.take_succ, List.filter_append, List.getElem?_eq_getElem hj]
            show _ ++ List.filter _ [row[j]] = _
            rw [List.filter_cons]
            rfl
          have fl := List.length_filter_le (fun x => L x q || L q x) (row.take j)
          rw [List.length_take] at fl
          rw [ex]
          generalize row[j] = x at *
          have L5 := hL.same (Sx.same_tr s1 (Sx.same_tr s3 s5))
          obtain ⟨xs, l, ys, a1, a2, a3, a4⟩ := L5.row (j := x) (k := q) (by omega) hq
          obtain ⟨xs2, l2, ys2, b1, b2, b3, b4⟩ := L5.row (j := q) (k := x) hq (by omega)
          have fin : ∀ b : Bool, b = (L x q || L q x) → if b = true then (∃ acc, H6 D = some (.lst acc) ∧ acc.length < sizeLine ∧ Same H4 (upd H6 D (.lst (acc ++ [V.int (x : Nat)]))) ∧ (upd H6 D (.lst (acc ++ [V.int (x : Nat)]))) D = some (.lst (RpX.vn (((row.take j).filter fun x => L x q || L q x) ++ (if (L x q || L q x) = true then [x] else []))))) else (Same H4 H6 ∧ H6 D = some (.lst (RpX.vn (((row.take j).filter fun x => L x q || L q x) ++ (if (L x q || L q x) = true then [x] else []))))) := by
            intro b e
            rw [← e]
            cases b with
            | true => 
              rw [if_pos rfl, if_pos rfl]
              refine ⟨_, hD, by rw [List.length_map, sizeLine_eq]; omega, Sx.same_new s5 nD, ?_⟩
              rw [upd_same, vn_app]
              rfl
            | false =>
              rw [if_neg (by decide), if_neg (by decide), List.append_nil]
              exact ⟨s5, hD⟩
          walk_at "go"
          refine ⟨rfl, ?_⟩
          walk_at "go"
          refine Sx.ixL (SqL.of a1) a2 ?_
          walk_at "go"
          refine Sx.ixL (SqL.of a3) a4 ?_
          walk_at "go"
          cases e1 : L x q with
          | true =>
            have z := fin true (by rw [e1]; rfl)
            rw [if_pos rfl] at z
            rw [e1] at z
            walk_at "go"
            exact z
          | false =>
            walk_at "go"
            refine Sx.ixL (SqL.of b1) b2 ?_
            walk_at "go"
            refine Sx.ixL (SqL.of b3) b4 ?_
            walk_at "go"
            have z := fin (L q x) (by rw [e1]; rfl)
            rw [e1] at z
            cases e2 : L q x with
            | true =>
              rw [e2, if_pos rfl] at z
              walk_at "go"
              exact z
            | false =>
              rw [e2, if_neg (by decide)] at z
              walk_at "go"
              exact z
        · rintro H5 ⟨s5, hD⟩
          rw [List.take_length] at hD
          walk_at "go"
          refine Sx.truL (SqL.of hD) ?_
          have eo : Ma.rowOk L q row = (RpX.vn (row.filter fun x => L x q || L q x)).isEmpty := by
            rw [Bool.eq_iff_iff, List.isEmpty_iff, RpX.vn, List.map_eq_nil_iff, List.filter_eq_nil_iff, Ma.rowOk, List.all_eq_true]
            simp
          rw [← eo]
          rw [etk]
          walk_at "go"
          have m15 := s5 _ _ m1
          cases eR : Ma.rowOk L q row with
          | false =>
            refine Sx.bF rfl ?_
            rw [if_neg (by decide), List.append_nil]
            walk_at "go"
            exact ⟨⟨Sx.same_tr s3 s5, ms, m15, m2, fun j l r z1 z2 => ⟨(m3 j l r z1 z2).1, s5 _ _ (m3 j l r z1 z2).2⟩⟩, _, _, rfl⟩
          | true =>
            refine Sx.bT rfl ?_
            rw [if_pos rfl]
            walk_at "go"
            refine Sx.appA m15 ?_
            walk_at "go"
            refine Sx.nw (by show 1 ≤ _; decide) fun c nc => ?_
            have hr5 := s5 _ _ hrow
            refine Sx.cat (by rw [upd_ne (ne_of_none hr5 nc)]; exact hr5) upd_same (by rw [List.length_map, List.length_singleton]; omega) fun p np => ?_
            have s6 : Same H4 (upd (upd H5 c (.lst [V.int (q : Nat)])) p (.lst (RpX.vn row ++ [V.int (q : Nat)]))) := Sx.same_tr s5 (Sx.same_new (Sx.same_new (Sx.same_rfl _) nc) (Sx.new_none (Sx.same_new (Sx.same_rfl _) nc) np))
            have hp6 : (upd (upd H5 c (.lst [V.int (q : Nat)])) p (.lst (RpX.vn row ++ [V.int (q : Nat)]))) p = some (.lst (RpX.vn (row ++ [q]))) := by
              rw [upd_same, vn_app]
              rfl
            have npm : p ≠ pm := fun z => by
              have := Sx.new_none (Sx.same_tr s5 (Sx.same_new (Sx.same_rfl _) nc)) np
              rw [z, m1] at this
              cases this
            generalize upd (upd H5 c (.lst [V.int (q : Nat)])) p (.lst (RpX.vn row ++ [V.int (q : Nat)])) = H6 at s6 hp6
            have m16 := s6 _ _ m1
            walk_at "go"
            refine Sx.appB m16 (by rw [List.length_map]; omega) ?_
            walk_at "go"
            refine ⟨⟨fun b o z => ?_, ms ++ [p], by rw [upd_same, List.map_append]; rfl, by rw [List.length_append, List.length_append, m2]; rfl, fun j l r z1 z2 => ?_⟩, _, _, rfl⟩
            · rw [upd_ne (ne_of_none z nm)]
              exact s6 _ _ (s3 _ _ z)
            · by_cases hj : j < ms.length
              · rw [List.getElem?_append_left hj] at z1
                rw [List.getElem?_append_left (by omega)] at z2
                obtain ⟨y1, y2⟩ := m3 j l r z1 z2
                exact ⟨y1, by rw [upd_ne y1]; exact s6 _ _ y2⟩
              · rw [List.getElem?_append_right (by omega)] at z1
                rw [List.getElem?_append_right (by omega), ← m2] at z2
                cases hz : j - ms.length with
                | zero =>
                  rw [hz] at z1 z2
                  obtain rfl : p = l := Option.some.inj z1
                  obtain rfl : row ++ [q] = r := Option.some.inj z2
                  exact ⟨npm, by rw [upd_ne npm]; exact hp6⟩
                | succ u =>
                  rw [hz] at z1
                  cases z1
      · rintro σ H3 ⟨⟨s3, ms, m1, m2, m3⟩, v5, v6, rfl⟩
        have etk : gMore L q (Ma.grow L q).length = ((Ma.grow L q).filter (Ma.rowOk L q)).map fun row => row ++ [q] := by
          show List.map _ (List.filter _ (List.take _ _)) = _
          rw [List.take_length]
        rw [etk] at m2 m3
        have mlen := List.length_filter_le (Ma.rowOk L q) (Ma.grow L q)
        rw [List.length_map] at m2
        walk_at "go"
        refine Sx.cat (s3 _ _ hf2) m1 (by rw [List.length_map, List.length_map]; omega) fun p np => ?_
        walk_at "go"
        refine ⟨Sx.same_new (Sx.same_tr s1 s3) (Sx.new_none (Sx.same_tr s1 s3) np), p, ⟨ls ++ ms, by rw [upd_same, List.map_append], ?_, fun j l r z1 z2 => ?_⟩, _, _, _, _, rfl⟩
        · show _ = (Ma.grow L q ++ _).length
          rw [List.length_append, List.length_append, List.length_map, hf3, m2]
        · have z2 : (Ma.grow L q ++ ((Ma.grow L q).filter (Ma.rowOk L q)).map fun row => row ++ [q])[j]? = some r := z2
          have key : H3 l = some (.lst (RpX.vn r)) := by
            by_cases hj : j < ls.length
            · rw [List.getElem?_append_left hj] at z1
              rw [List.getElem?_append_left (by omega)] at z2
              exact s3 _ _ (hf4 j l r z1 z2)
            · rw [List.getElem?_append_right (by omega)] at z1
              rw [List.getElem?_append_right (by omega), ← hf3] at z2
              exact (m3 _ l r z1 z2).2
          rw [upd_ne (ne_of_none key np)]
          exact key
    · rintro σ H1 ⟨s1, pf, hf, v3, v4, v5, v6, rfl⟩
      walk_at "go"
      have hg := Ma.grow_len L n
      have hg2 : 2 ^ n ≤ 2 ^ 8 := Nat.pow_le_pow_right (by decide) (by omega)
      obtain ⟨ls, hf2, hf3, hf4⟩ := id hf
      refine ⟨pf, rfl, ⟨_, SqL.of hf2⟩, fun D nD => ?_⟩
      refine VrX.lc_J (n := (Ma.grow L n).length) (fun j H' => Same H1 H' ∧ H' D = some (.lst ((((Ma.grow L n).take j).map fun r => ((r.length : Nat) : Int)).map V.int))) ⟨Sx.same_new (Sx.same_rfl _) nD, upd_same⟩
        (fun _ h => ⟨_, SqL.of (h.1 _ _ hf2), by rw [List.length_map, hf3]; exact Nat.le_refl _⟩) (fun i _ hi h => ⟨_, V.ref (ls[i]'(by omega)), SqL.of (h.1 _ _ hf2), by rw [List.getElem?_map, List.getElem?_eq_getElem (by omega)]; rfl⟩) ?_ ?_
      · rintro i y H2 H3 hi ⟨s2, hD⟩ ⟨rfl, hy⟩
        have hil : i < ls.length := by omega
        have hy2 := hy _ (SqL.of (s2 _ _ hf2))
        rw [List.getElem?_map, List.getElem?_eq_getElem hil] at hy2
        obtain rfl : V.ref ls[i] = y := Option.some.inj hy2
        have hrow := s2 _ _ (hf4 i _ _ (List.getElem?_eq_getElem hil) (List.getElem?_eq_getElem hi))
        walk_at "go"
        refine ⟨rfl, ?_⟩
        walk_at "go"
        refine Sx.lenL (SqL.of hrow) ?_
        refine ⟨_, hD, by rw [List.length_map, List.length_map, List.length_take, sizeLine_eq]; omega, Sx.same_new s2 nD, ?_⟩
        rw [upd_same, List.take_succ, List.getElem?_eq_getElem hi, List.map_append, List.map_append, RpX.vn, List.length_map]
        rfl
      · rintro H2 ⟨s2, hD⟩
        rw [List.take_length] at hD
        walk_at "go"
        have hpos : 0 < (Ma.grow L n).length := grow_pos n
        refine ⟨D, _, rfl, SqL.of hD, by rw [List.length_map]; exact hpos, fun m hm hmx => ?_⟩
        obtain ⟨row, r1, r2⟩ := List.mem_map.mp hm
        rw [← r2]
        exact k H2 row.length (Sx.same_tr s1 s2) ⟨row, r1, rfl⟩ fun r3 h3 => by
          have := hmx _ (List.mem_map.mpr ⟨r3, h3, rfl⟩)
          omega
end
end Wk

set_option Elab.async false
set_option linter.all false
set_option maxRecDepth 100000
set_option maxHeartbeats 2000000
namespace Wk
open PySem PySem.Spec PyProof.Rows L2 NdefX SuX Hk
local macro_rules | `(tactic| walk_at "st") => `(tactic| first
  | with_reducible refine Sx.ret ?_
  | with_reducible refine Sx.retN ?_
  | with_reducible refine Sx.seq ?_
  | with_reducible refine Sx.next ?_
  | with_reducible refine Sx.brk ?_
  | with_reducible refine Sx.cont ?_
  | with_reducible refine Sx.drop ?_
  | with_reducible refine Sx.asg ?_
  | with_reducible refine Sx.gname ?_
  | with_reducible refine Sx.ifS ?_
  | with_reducible refine Sx.var ?_
  | with_reducible refine Sx.con ?_
  | with_reducible refine Sx.op ?_
  | with_reducible refine Sx.un ?_
  | with_reducible refine Sx.cb ?_
  | with_reducible refine Sx.cons ?_
  | with_reducible refine Sx.nil ?_
  | with_reducible refine Sx.call ?_
  | with_reducible refine Sx.test ?_
  | with_reducible refine Sx.tb_ ?_
  | with_reducible refine Sx.bl ?_
  | with_reducible refine Sx.and_ ?_
  | with_reducible refine Sx.or_ ?_
  | with_reducible refine Sx.not_ ?_
  | with_reducible refine Sx.andV ?_
  | with_reducible refine Sx.orV ?_
  | with_reducible refine Sx.notV ?_
  | with_reducible refine Sx.ife ?_
  | with_reducible refine Sx.i0 ?_
  | with_reducible refine Sx.iU ?_
  | with_reducible refine Sx.eqI ?_
  | with_reducible refine Sx.eqS ?_
  | with_reducible refine Sx.neI ?_
  | with_reducible refine Sx.neS ?_
  | with_reducible refine Sx.isN' ?_
  | with_reducible refine Sx.chain ?_
  | with_reducible refine Sx.aug ?_
  | with_reducible refine Sx.ipI' ?_
  | with_reducible refine Sx.ifT ?_
  | with_reducible refine Sx.ifF ?_
  | with_reducible refine Sx.ifnF ?_
  | with_reducible refine Sx.ifnT ?_
  | with_reducible refine Sx.tup ?_
  | with_reducible refine Sx.lst ?_
  | with_reducible refine Sx.fld ?_
  | with_reducible refine Sx.sfld ?_
  | with_reducible refine Sx.meth ?_
  | with_reducible refine Sx.app ?_
  | with_reducible refine Sx.gcons ?_
  | with_reducible refine Sx.gnil ?_
  | with_reducible refine Sx.dget ?_
  | with_reducible refine Sx.din ?_
  | with_reducible refine Sx.dnin ?_
  | with_reducible refine Sx.dput ?_
  | with_reducible refine Sx.forS ?_
  | with_reducible refine Sx.ikeys ?_
  | with_reducible refine Sx.ienumT ?_
  | with_reducible refine Sx.scT ?_
  | with_reducible refine Sx.dc2 ?_
  | with_reducible refine Sx.tru ?_
  | with_reducible refine Sx.mv ?_
  | with_reducible refine Sx.cv ?_
  | with_reducible refine Sx.cw ?_
  | with_reducible refine Sx.join ?_
  | with_reducible refine Sx.lc ?_
  | with_reducible refine Sx.istr ?_
  | with_reducible refine Sx.ilist ?_
  | with_reducible refine Sx.itup ?_
  | with_reducible refine Sx.irng1 ?_
  | with_reducible refine Sx.irng2 ?_
  | with_reducible refine Sx.ienum ?_
  | with_reducible refine Sx.izip ?_
  | with_reducible refine Sx.irev ?_
  | with_reducible refine Sx.iitems ?_
  | with_reducible refine Sx.yes ?_
  | with_reducible refine Sx.js_cons ?_
  | with_reducible refine Sx.js_nil ?_
  | with_reducible refine Sx.fmt ?_
  | with_reducible refine Sx.isi_int ?_
  | with_reducible refine Sx.isi_intb ?_
  | with_reducible refine Sx.isi_str ?_)
local macro_rules | `(tactic| walk_at "go") => `(tactic| repeat walk_at "st")
local macro_rules | `(tactic| walk_at "is") => `(tactic| simp only [Option.isSome_some, Option.isSome_none, Bool.not_true, Bool.not_false])
/-! The law's own checks: the clash. -/
section
variable {P : Program} {w : World} {K : PySem.W.Frag} {mg : Str → Option Value} {base : Heap}
theorem inV_nat {x : Nat} {l : List Nat} : inV (.int (x : Nat)) (RpX.vn l) = decide (x ∈ l) := by
  rw [Bool.eq_iff_iff, decide_eq_true_iff]
  unfold inV RpX.vn
  rw [List.any_map, List.any_eq_true]
  constructor
  · rintro ⟨y, hy, e⟩
    have e : ((y : Int) == (x : Int)) = true := e
    have := eq_of_beq e
    rw [show x = y by omega]
    exact hy
  · intro hx
    exact ⟨x, hx, (beq_self_eq_true (x : Int) : ((x : Int) == (x : Int)) = true)⟩
theorem flat_nats (l : List Nat) : (RpX.vn l).all flatV = true := by
  unfold RpX.vn
  rw [List.all_map, List.all_eq_true]
  exact fun _ _ => rfl
theorem nums_lay : ∀ l : List Nat, PyData.canLayAll0 (RpX.nums l) = true
  | [] => rfl
  | n :: l => nums_lay l
theorem nums_depth : ∀ l : List Nat, PyData.depthAll (RpX.nums l) = 0
  | [] => rfl
  | n :: l => by
    show Nat.max 0 (PyData.depthAll (RpX.nums l)) = 0
    rw [nums_depth l]
    rfl
theorem nums_shaped (l : List Nat) : SeqAt.shaped (.list (RpX.nums l)) = true := by
  have e : PyData.depth (.list (RpX.nums l)) = PyData.depthAll (RpX.nums l) + 1 := by first | rfl | (show 1 + _ = _; omega)
  have h : PyData.depth (.list (RpX.nums l)) ≤ 64 := by rw [e, nums_depth]; decide
  exact Bool.and_eq_true_iff.mpr ⟨nums_lay l, decide_eq_true h⟩
theorem nums_eqv (l : List Nat) : PyData.eqv (.list (RpX.nums l)) (.list (RpX.nums l)) = true := SeqAt.eqv_refl (.list (RpX.nums l)) (nums_lay l)
def sp_lapart : Sp := fun vs H Q _ => ∃ (a b : Addr) (n : Nat) (L : Nat → Nat → Bool) (A : List Nat), vs = [.ref a, .ref b, .int n] ∧ LdAt H a L n ∧ n ≤ 60 ∧ H b = some (.lst (RpX.vn A)) ∧ A = (List.range n).filter (fun k => decide (k ∈ A)) ∧ (∀ x ∈ A, ∀ y ∈ A, L x y = false) ∧ ∀ H', Same H H' → Q (.bl true) H'
theorem ok_law_apart (T : Tx K mg) : O__law_apart P w K mg base 2 sp_lapart := by
  have G__law_number : O__law_number P w K mg base 1 sp_law_number := ok_law_number T
  refine T.F__law_apart.ok sc__law_apart (fun vs H Q E h => ?_) (fun cdv A outer s H vs Q E hr h => ?_)
  · obtain ⟨a, b, n, L, A, rfl, _⟩ := h
    rfl
  · obtain ⟨a, b, n, L, A, rfl, hL, hn, hb, e1, e2, k⟩ := h
    refine ⟨_, PSs.nox ((pss_cons (ps_if (PW.pt (pw_or (pt_not (pt_val (pe_callB (Kw.isi K) (by rfl) T.f_isinstance (by decide +kernel) (pa_cons (pv 1) (pa_cons (pe_bltn (v := .ty "list") rfl T.f_list (by decide +kernel) rfl) pa_nil))))) (pw_or1 (pt_not (pt_val (pe_callB (Kw.all K rfl) (by rfl) T.f_all (by decide +kernel) (pa_cons (pe_lc (own := [("_law_k", 4)]) (g := gName 4) (tt := tYes) rfl sc__law_apart.nd (show PI _ _ _ (iList K _) from pi_list (pv 1)) (blkOk_by (own := [("_law_k", 4)]) (N := N__law_apart) (sc := defScope sd__law_apart) (by decide +kernel)) (fun _ _ _ _ _ => (pg_name (i := 4) sc__law_apart.nd rfl (Or.inl rfl))) (fun _ _ _ _ _ => pts_nil) (fun _ _ _ _ _ => (pe_call G__law_number (hr.mono (by decide)) rfl T.g__law_number T.F__law_number.kp T.b__law_number .nil pass0 (pa_cons (pv 4) pa_nil)))) pa_nil))))))) (pss_one (ps_ret (pe_bl))) pss_nil) (pss_cons (ps_if (pt_cmpR (op_neD hr.units) (pv 1) (pe_lc (own := [("_law_k", 4)]) (g := gName 4) rfl sc__law_apart.nd (pi_range1 (by rfl) T.f_range (pa_cons (pv 2) pa_nil)) (blkOk_by (own := [("_law_k", 4)]) (N := N__law_apart) (sc := defScope sd__law_apart) (by decide +kernel)) (fun _ _ _ _ _ => (pg_name (i := 4) sc__law_apart.nd rfl (Or.inl rfl))) (fun _ _ _ _ _ => (pts_one (pt_cmpR (Kw.inS K) (pv 4) (pv 1) rfl))) (fun _ _ _ _ _ => (pv 4))) (nomark _)) (pss_one (ps_ret (pe_bl))) pss_nil) (pss_cons (ps_for PassesOwn.never rfl (show PI _ _ _ (iList K _) from pi_list (pv 1)) (pg_name (i := 3) sc__law_apart.nd rfl (Or.inr rfl)) (pss_one (ps_if (show PT _ _ (Kw.tTru K _) from pt_truth (pe_lc (own := [("_law_two", 5)]) (g := gName 5) rfl sc__law_apart.nd (show PI _ _ _ (iList K _) from pi_list (pv 1)) (blkOk_by (own := [("_law_two", 5)]) (N := N__law_apart) (sc := defScope sd__law_apart) (by decide +kernel)) (fun _ _ _ _ _ => (pg_name (i := 5) sc__law_apart.nd rfl (Or.inl rfl))) (fun _ _ _ _ _ => (pts_one (pt_val (pe_ix (Kw.ixL K) (pe_ix (Kw.ixL K) (pv 0) (pv 3) (fun _ _ => rfl)) (pv 5) (fun _ _ => rfl))))) (fun _ _ _ _ _ => (pv 5))) (by intro _; rfl)) (pss_one (ps_ret (pe_bl))) pss_nil))) (pss_one (ps_ret (pe_bl))))))), ?_⟩
    have lA : A.length ≤ 60 := by
      have := List.length_filter_le (fun k => decide (k ∈ A)) (List.range n)
      rw [← e1, List.length_range] at this
      omega
    have bA : ∀ x ∈ A, x < n := fun x hx => by
      rw [e1] at hx
      exact List.mem_range.mp (List.mem_filter.mp hx).1
    walk_at "go"
    refine Sx.isi_lst hb ?_
    walk_at "go"
    refine ⟨b, rfl, ⟨_, SqL.of hb⟩, fun D nD => ?_⟩
    refine VrX.lc_J (n := A.length) (fun i H' => Same H H' ∧ H' D = some (.lst (List.replicate i (V.bl true)))) ⟨Sx.same_new (Sx.same_rfl _) nD, upd_same⟩
      (fun _ h => ⟨_, SqL.of (h.1 _ _ hb), by simp⟩) (fun i _ hi h => ⟨_, V.int (A[i] : Nat), SqL.of (h.1 _ _ hb), by rw [List.getElem?_map, List.getElem?_eq_getElem hi]; rfl⟩) ?_ ?_
    · rintro i y H1 H2 hi ⟨s1, hD⟩ ⟨rfl, hy⟩
      have hy2 := hy _ (SqL.of (s1 _ _ hb))
      rw [List.getElem?_map, List.getElem?_eq_getElem hi] at hy2
      obtain rfl : V.int (A[i] : Nat) = y := Option.some.inj hy2
      walk_at "go"
      refine ⟨rfl, ?_⟩
      walk_at "go"
      refine ⟨_, rfl, ?_⟩
      refine ⟨_, hD, by rw [List.length_replicate, sizeLine_eq]; omega, Sx.same_new s1 nD, ?_⟩
      rw [upd_same, List.replicate_succ']
    · rintro H1 ⟨s1, hD⟩
      walk_at "go"
      refine ⟨D, List.replicate A.length true, rfl, SqL.of (by rw [List.map_replicate]; exact hD), ?_⟩
      rw [show (List.replicate A.length true).all id = true by simp]
      walk_at "go"
      refine ⟨(n : Int), rfl, by omega, by omega, fun D2 nD2 => ?_⟩
      have hb1 := s1 _ _ hb
      refine VrX.lc_J (n := n) (fun i H' => Same H1 H' ∧ H' D2 = some (.lst (RpX.vn ((List.range i).filter fun k => decide (k ∈ A))))) ⟨Sx.same_new (Sx.same_rfl _) nD2, upd_same⟩
        (fun _ _ => by show (n : Int).toNat ≤ _; omega) (fun i _ hi _ => by show i < (n : Int).toNat; omega) ?_ ?_
      · rintro i y H2 H3 hi ⟨s2, hD2⟩ ⟨rfl, rfl⟩
        rw [Int.zero_add]
        have fl := List.length_filter_le (fun k => decide (k ∈ A)) (List.range i)
        rw [List.length_range] at fl
        have ex : ((List.range (i + 1)).filter fun k => decide (k ∈ A)) = ((List.range i).filter fun k => decide (k ∈ A)) ++ (if decide (i ∈ A) = true then [i] else []) := by
          rw [List.range_succ, List.filter_append, List.filter_cons]
          rfl
        rw [ex]
        walk_at "go"
        refine ⟨rfl, ?_⟩
        walk_at "go"
        refine ⟨b, _, rfl, .inl (SqL.of (s2 _ _ hb1)), rfl, flat_nats _, ?_⟩
        rw [inV_nat]
        walk_at "go"
        by_cases hc : i ∈ A
        · refine Sx.bT (decide_eq_true hc) ?_
          rw [if_pos (decide_eq_true hc)]
          walk_at "go"
          refine ⟨_, hD2, by rw [List.length_map, sizeLine_eq]; omega, Sx.same_new s2 nD2, ?_⟩
          rw [upd_same, vn_app]
          rfl
        · refine Sx.bF (decide_eq_false hc) ?_
          rw [if_neg (fun z => hc (of_decide_eq_true z)), List.append_nil]
          exact ⟨s2, hD2⟩
      · rintro H2 ⟨s2, hD2⟩
        rw [← e1] at hD2
        have hb2 := s2 _ _ hb1
        refine ⟨.list (RpX.nums A), .list (RpX.nums A), .lst (SqL.of hb2) (RpX.dp_nums A), .lst (SqL.of hD2) (RpX.dp_nums A), nums_shaped A, nums_shaped A, ?_⟩
        rw [nums_eqv]
        walk_at "go"
        refine ⟨b, rfl, ⟨_, SqL.of hb2⟩, VrX.for_J (n := A.length) (fun i σ H' => Same H2 H' ∧ ∃ v3 v4 v5, σ = [some (.ref a), some (.ref b), some (.int n), v3, v4, v5])
          ⟨Sx.same_rfl _, _, _, _, rfl⟩ (fun _ _ h => ⟨_, SqL.of (h.1 _ _ hb2), by simp⟩) (fun i _ _ hi h => ⟨_, V.int (A[i] : Nat), SqL.of (h.1 _ _ hb2), by rw [List.getElem?_map, List.getElem?_eq_getElem hi]; rfl⟩) ?_ ?_⟩
        · rintro i y σ H3 H4 hi ⟨s3, v3, v4, v5, rfl⟩ ⟨rfl, hy⟩
          have hb3 := s3 _ _ hb2
          have hy2 := hy _ (SqL.of hb3)
          rw [List.getElem?_map, List.getElem?_eq_getElem hi] at hy2
          obtain rfl : V.int (A[i] : Nat) = y := Option.some.inj hy2
          have hxm : A[i] ∈ A := List.getElem_mem hi
          have s03 := Sx.same_tr s1 (Sx.same_tr s2 s3)
          generalize A[i] = x at *
          walk_at "go"
          refine ⟨b, rfl, ⟨_, SqL.of hb3⟩, fun D3 nD3 => ?_⟩
          refine VrX.lc_J (n := A.length) (fun j H' => Same H4 H' ∧ H' D3 = some (.lst [])) ⟨Sx.same_new (Sx.same_rfl _) nD3, upd_same⟩
            (fun _ h => ⟨_, SqL.of (h.1 _ _ hb3), by simp⟩) (fun j _ hj h => ⟨_, V.int (A[j] : Nat), SqL.of (h.1 _ _ hb3), by rw [List.getElem?_map, List.getElem?_eq_getElem hj]; rfl⟩) ?_ ?_
          · rintro j y H5 H6 hj ⟨s5, hD3⟩ ⟨rfl, hy⟩
            have hy2 := hy _ (SqL.of (s5 _ _ hb3))
            rw [List.getElem?_map, List.getElem?_eq_getElem hj] at hy2
            obtain rfl : V.int (A[j] : Nat) = y := Option.some.inj hy2
            have hzm : A[j] ∈ A := List.getElem_mem hj
            generalize A[j] = z at *
            obtain ⟨xs, l, ys, a1, a2, a3, a4⟩ := (hL.same (Sx.same_tr s03 s5)).row (bA x hxm) (bA z hzm)
            walk_at "go"
            refine ⟨rfl, ?_⟩
            walk_at "go"
            refine Sx.ixL (SqL.of a1) a2 ?_
            walk_at "go"
            refine Sx.ixL (SqL.of a3) a4 ?_
            rw [e2 x hxm z hzm]
            walk_at "go"
            exact ⟨s5, hD3⟩
          · rintro H5 ⟨s5, hD3⟩
            walk_at "go"
            refine Sx.truL (SqL.of hD3) ?_
            refine Sx.bF rfl ?_
            walk_at "go"
            exact ⟨Sx.same_tr s3 s5, _, _, _, rfl⟩
        · rintro σ H3 ⟨s3, v3, v4, v5, rfl⟩
          walk_at "go"
          exact k H3 (Sx.same_tr s1 (Sx.same_tr s2 s3))
end
end Wk

set_option Elab.async false
set_option linter.all false
set_option maxRecDepth 100000
set_option maxHeartbeats 2000000
namespace Wk
open PySem PySem.Spec PyProof.Rows L2 NdefX SuX Hk
local macro_rules | `(tactic| walk_at "st") => `(tactic| first
  | with_reducible refine Sx.ret ?_
  | with_reducible refine Sx.retN ?_
  | with_reducible refine Sx.seq ?_
  | with_reducible refine Sx.next ?_
  | with_reducible refine Sx.brk ?_
  | with_reducible refine Sx.cont ?_
  | with_reducible refine Sx.drop ?_
  | with_reducible refine Sx.asg ?_
  | with_reducible refine Sx.gname ?_
  | with_reducible refine Sx.ifS ?_
  | with_reducible refine Sx.var ?_
  | with_reducible refine Sx.con ?_
  | with_reducible refine Sx.op ?_
  | with_reducible refine Sx.un ?_
  | with_reducible refine Sx.cb ?_
  | with_reducible refine Sx.cons ?_
  | with_reducible refine Sx.nil ?_
  | with_reducible refine Sx.call ?_
  | with_reducible refine Sx.test ?_
  | with_reducible refine Sx.tb_ ?_
  | with_reducible refine Sx.bl ?_
  | with_reducible refine Sx.and_ ?_
  | with_reducible refine Sx.or_ ?_
  | with_reducible refine Sx.not_ ?_
  | with_reducible refine Sx.andV ?_
  | with_reducible refine Sx.orV ?_
  | with_reducible refine Sx.notV ?_
  | with_reducible refine Sx.ife ?_
  | with_reducible refine Sx.i0 ?_
  | with_reducible refine Sx.iU ?_
  | with_reducible refine Sx.eqI ?_
  | with_reducible refine Sx.eqS ?_
  | with_reducible refine Sx.neI ?_
  | with_reducible refine Sx.neS ?_
  | with_reducible refine Sx.isN' ?_
  | with_reducible refine Sx.chain ?_
  | with_reducible refine Sx.aug ?_
  | with_reducible refine Sx.ipI' ?_
  | with_reducible refine Sx.ifT ?_
  | with_reducible refine Sx.ifF ?_
  | with_reducible refine Sx.ifnF ?_
  | with_reducible refine Sx.ifnT ?_
  | with_reducible refine Sx.tup ?_
  | with_reducible refine Sx.lst ?_
  | with_reducible refine Sx.fld ?_
  | with_reducible refine Sx.sfld ?_
  | with_reducible refine Sx.meth ?_
  | with_reducible refine Sx.app ?_
  | with_reducible refine Sx.gcons ?_
  | with_reducible refine Sx.gnil ?_
  | with_reducible refine Sx.dget ?_
  | with_reducible refine Sx.din ?_
  | with_reducible refine Sx.dnin ?_
  | with_reducible refine Sx.dput ?_
  | with_reducible refine Sx.forS ?_
  | with_reducible refine Sx.ikeys ?_
  | with_reducible refine Sx.ienumT ?_
  | with_reducible refine Sx.scT ?_
  | with_reducible refine Sx.dc2 ?_
  | with_reducible refine Sx.tru ?_
  | with_reducible refine Sx.mv ?_
  | with_reducible refine Sx.cv ?_
  | with_reducible refine Sx.cw ?_
  | with_reducible refine Sx.join ?_
  | with_reducible refine Sx.lc ?_
  | with_reducible refine Sx.istr ?_
  | with_reducible refine Sx.ilist ?_
  | with_reducible refine Sx.itup ?_
  | with_reducible refine Sx.irng1 ?_
  | with_reducible refine Sx.irng2 ?_
  | with_reducible refine Sx.ienum ?_
  | with_reducible refine Sx.izip ?_
  | with_reducible refine Sx.irev ?_
  | with_reducible refine Sx.iitems ?_
  | with_reducible refine Sx.yes ?_
  | with_reducible refine Sx.js_cons ?_
  | with_reducible refine Sx.js_nil ?_
  | with_reducible refine Sx.fmt ?_
  | with_reducible refine Sx.isi_int ?_
  | with_reducible refine Sx.isi_intb ?_
  | with_reducible refine Sx.isi_str ?_)
local macro_rules | `(tactic| walk_at "go") => `(tactic| repeat walk_at "st")
local macro_rules | `(tactic| walk_at "is") => `(tactic| simp only [Option.isSome_some, Option.isSome_none, Bool.not_true, Bool.not_false])
/-! The law's own checks: the journeys. -/
section
variable {P : Program} {w : World} {K : PySem.W.Frag} {mg : Str → Option Value} {base : Heap}
structure LinesOk (L : Nat → Nat → Bool) (n : Nat) (Ls : List (List Nat)) : Prop where
  perm : Ls.flatten.Perm (List.range n)
  ne : ∀ l ∈ Ls, l ≠ []
  pw : ∀ l ∈ Ls, l.Pairwise fun a b => L a b = true
def sp_llines : Sp := fun vs H Q _ => ∃ (a c : Addr) (n : Nat) (L : Nat → Nat → Bool) (Ls : List (List Nat)), vs = [.ref a, .ref c, .int n] ∧ LdAt H a L n ∧ n ≤ 60 ∧ FdAt H c Ls ∧ LinesOk L n Ls ∧ ∀ H', Same H H' → Q (.bl true) H'
theorem ok_law_lines_good (T : Tx K mg) : O__law_lines_good P w K mg base 2 sp_llines := by
  have G__law_number : O__law_number P w K mg base 1 sp_law_number := ok_law_number T
  refine T.F__law_lines_good.ok sc__law_lines_good (fun vs H Q E h => ?_) (fun cdv A outer s H vs Q E hr h => ?_)
  · obtain ⟨a, c, n, L, Ls, rfl, _⟩ := h
    rfl
  · obtain ⟨a, c, n, L, Ls, rfl, hL, hn, hf, ok, k⟩ := h
    refine ⟨_, PSs.nox ((pss_cons (ps_if (pt_not (pt_val (pe_callB (Kw.isi K) (by rfl) T.f_isinstance (by decide +kernel) (pa_cons (pv 1) (pa_cons (pe_bltn (v := .ty "list") rfl T.f_list (by decide +kernel) rfl) pa_nil))))) (pss_one (ps_ret (pe_bl))) pss_nil) (pss_cons (ps_set (i := 3) sc__law_lines_good.nd rfl (Or.inl rfl) (pe_lst pa_nil)) (pss_cons (ps_for PassesOwn.never rfl (show PI _ _ _ (iList K _) from pi_list (pv 1)) (pg_name (i := 4) sc__law_lines_good.nd rfl (Or.inl rfl)) (pss_cons (ps_if (PW.pt (pw_or (pt_not (pt_val (pe_callB (Kw.isi K) (by rfl) T.f_isinstance (by decide +kernel) (pa_cons (pv 4) (pa_cons (pe_bltn (v := .ty "list") rfl T.f_list (by decide +kernel) rfl) pa_nil))))) (pw_or (pt_cmpR (op_eqD hr.units) (pv 4) (pe_lst pa_nil) (nomark _)) (pw_or1 (pt_not (pt_val (pe_callB (Kw.all K rfl) (by rfl) T.f_all (by decide +kernel) (pa_cons (pe_lc (own := [("_law_k", 5)]) (g := gName 5) (tt := tYes) rfl sc__law_lines_good.nd (show PI _ _ _ (iList K _) from pi_list (pv 4)) (blkOk_by (own := [("_law_k", 5)]) (N := N__law_lines_good) (sc := defScope sd__law_lines_good) (by decide +kernel)) (fun _ _ _ _ _ => (pg_name (i := 5) sc__law_lines_good.nd rfl (Or.inl rfl))) (fun _ _ _ _ _ => pts_nil) (fun _ _ _ _ _ => (pe_call G__law_number (hr.mono (by decide)) rfl T.g__law_number T.F__law_number.kp T.b__law_number .nil pass0 (pa_cons (pv 5) pa_nil)))) pa_nil)))))))) (pss_one (ps_ret (pe_bl))) pss_nil) (pss_one (ps_set (i := 3) sc__law_lines_good.nd rfl (Or.inl rfl) (pe_op op_cat (pv 3) (pv 4)))))) (pss_cons (ps_if (pt_cmpR (op_neD hr.units) (pe_callB cr_sorted (by rfl) T.f_sorted (by decide +kernel) (pa_cons (pv 3) pa_nil)) (pe_listRg rfl rfl T.f_list (prg_1 rfl T.f_range (pv 2))) (nomark _)) (pss_one (ps_ret (pe_bl))) pss_nil) (pss_cons (ps_for PassesOwn.never rfl (show PI _ _ _ (iList K _) from pi_list (pv 1)) (pg_name (i := 4) sc__law_lines_good.nd rfl (Or.inl rfl)) (pss_one (ps_if (pt_not (pt_val (pe_callB (Kw.all K rfl) (by rfl) T.f_all (by decide +kernel) (pa_cons (pe_lc (own := [("_law_one", 6), ("_law_two", 7)]) (tt := tYes) rfl sc__law_lines_good.nd (show PI _ _ _ (iZip K _) from pi_zip (by rfl) T.f_zip (pa_cons (pv 4) (pa_cons (pe_slice (Kw.slL K) (pv 4) (po_some (pe_int)) po_none) pa_nil))) (blkOk_by (own := [("_law_one", 6), ("_law_two", 7)]) (N := N__law_lines_good) (sc := defScope sd__law_lines_good) (by decide +kernel)) (fun _ _ _ _ _ => (show PG _ _ (gTup K 2 _) from pg_tup rfl (pgs_cons (pg_name (i := 6) sc__law_lines_good.nd rfl (Or.inl rfl)) (pgs_cons (pg_name (i := 7) sc__law_lines_good.nd rfl (Or.inl rfl)) pgs_nil)))) (fun _ _ _ _ _ => pts_nil) (fun _ _ _ _ _ => (pe_ix (Kw.ixL K) (pe_ix (Kw.ixL K) (pv 0) (pv 6) (fun _ _ => rfl)) (pv 7) (fun _ _ => rfl)))) pa_nil)))) (pss_one (ps_ret (pe_bl))) pss_nil))) (pss_one (ps_ret (pe_bl))))))))), ?_⟩
    obtain ⟨ls, hf2, hf3, hf4⟩ := id hf
    have plen : Ls.flatten.length = n := by rw [ok.perm.length_eq, List.length_range]
    have bL : ∀ l ∈ Ls, ∀ x ∈ l, x < n := fun l hl x hx => List.mem_range.mp (ok.perm.mem_iff.mp (List.mem_flatten.mpr ⟨l, hl, hx⟩))
    walk_at "go"
    refine Sx.isi_lst hf2 ?_
    walk_at "go"
    refine Sx.nw (by show 0 ≤ _; decide) fun pm nm => ?_
    walk_at "go"
    have s0 : Same H (upd H pm (.lst [])) := Sx.same_new (Sx.same_rfl _) nm
    have hp0 : (upd H pm (.lst [])) pm = some (.lst (RpX.vn (Ls.take 0).flatten)) := upd_same
    generalize upd H pm (.lst []) = H0 at s0 hp0
    refine ⟨c, rfl, ⟨_, SqL.of (s0 _ _ hf2)⟩, VrX.for_J (n := Ls.length) (fun i σ H' => Same H H' ∧ ∃ pm', H' pm' = some (.lst (RpX.vn (Ls.take i).flatten)) ∧ ∃ v4 v5 v6 v7, σ = [some (.ref a), some (.ref c), some (.int n), some (.ref pm'), v4, v5, v6, v7])
      ⟨s0, pm, hp0, _, _, _, _, rfl⟩ (fun _ _ h => ⟨_, SqL.of (h.1 _ _ hf2), by rw [List.length_map, hf3]; exact Nat.le_refl _⟩) (fun i _ _ hi h => ⟨_, V.ref (ls[i]'(by omega)), SqL.of (h.1 _ _ hf2), by rw [List.getElem?_map, List.getElem?_eq_getElem (by omega)]; rfl⟩) ?_ ?_⟩
    · rintro i y σ H1 H2 hi ⟨s1, p1, hp1, v4, v5, v6, v7, rfl⟩ ⟨rfl, hy⟩
      have hil : i < ls.length := by omega
      have hy2 := hy _ (SqL.of (s1 _ _ hf2))
      rw [List.getElem?_map, List.getElem?_eq_getElem hil] at hy2
      obtain rfl : V.ref ls[i] = y := Option.some.inj hy2
      have hrow := s1 _ _ (hf4 i _ _ (List.getElem?_eq_getElem hil) (List.getElem?_eq_getElem hi))
      have hlm : Ls[i] ∈ Ls := List.getElem_mem hi
      have hne := ok.ne _ hlm
      have etk : (Ls.take (i + 1)).flatten = (Ls.take i).flatten ++ Ls[i] := by
        rw [List.take_succ, List.getElem?_eq_getElem hi, List.flatten_append]
        show _ ++ (Ls[i] ++ []) = _
        rw [List.append_nil]
      have l1 : (Ls.take i).flatten.length + Ls[i].length ≤ n := by
        rw [← List.length_append, ← etk, ← plen]
        have := List.take_append_drop (i + 1) Ls
        have e2 : Ls.flatten = (Ls.take (i + 1)).flatten ++ (Ls.drop (i + 1)).flatten := by rw [← List.flatten_append, this]
        rw [e2, List.length_append]
        omega
      rw [etk]
      generalize (Ls.take i).flatten = ms at *
      generalize Ls[i] = row at *
      generalize ls[i] = lr at *
      walk_at "go"
      refine Sx.isi_lst hrow ?_
      walk_at "go"
      refine Sx.nw (by show 0 ≤ _; decide) fun pe ne => ?_
      have s2 : Same H2 (upd H2 pe (.lst [])) := Sx.same_new (Sx.same_rfl _) ne
      have he2 : (upd H2 pe (.lst [])) pe = some (.lst []) := upd_same
      generalize upd H2 pe (.lst []) = H3 at s2 he2
      have hr3 := s2 _ _ hrow
      refine ⟨.list (RpX.nums row), .list [], .lst (SqL.of hr3) (RpX.dp_nums row), .lst (SqL.of he2) .nil, nums_shaped row, by decide +kernel, ?_⟩
      rw [show PyData.eqv (.list (RpX.nums row)) (.list []) = false by
        cases row with
        | nil => exact absurd rfl hne
        | cons x r => rfl]
      walk_at "go"
      refine ⟨lr, rfl, ⟨_, SqL.of hr3⟩, fun D nD => ?_⟩
      refine VrX.lc_J (n := row.length) (fun j H' => Same H3 H' ∧ H' D = some (.lst (List.replicate j (V.bl true)))) ⟨Sx.same_new (Sx.same_rfl _) nD, upd_same⟩
        (fun _ h => ⟨_, SqL.of (h.1 _ _ hr3), by simp⟩) (fun j _ hj h => ⟨_, V.int (row[j] : Nat), SqL.of (h.1 _ _ hr3), by rw [List.getElem?_map, List.getElem?_eq_getElem hj]; rfl⟩) ?_ ?_
      · rintro j y H4 H5 hj ⟨s4, hD⟩ ⟨rfl, hy⟩
        have hy2 := hy _ (SqL.of (s4 _ _ hr3))
        rw [List.getElem?_map, List.getElem?_eq_getElem hj] at hy2
        obtain rfl : V.int (row[j] : Nat) = y := Option.some.inj hy2
        walk_at "go"
        refine ⟨rfl, ?_⟩
        walk_at "go"
        refine ⟨_, rfl, ?_⟩
        refine ⟨_, hD, by rw [List.length_replicate, sizeLine_eq]; omega, Sx.same_new s4 nD, ?_⟩
        rw [upd_same, List.replicate_succ']
      · rintro H4 ⟨s4, hD⟩
        walk_at "go"
        refine ⟨D, List.replicate row.length true, rfl, SqL.of (by rw [List.map_replicate]; exact hD), ?_⟩
        rw [show (List.replicate row.length true).all id = true by simp]
        walk_at "go"
        refine Sx.cat (s4 _ _ (s2 _ _ hp1)) (s4 _ _ hr3) (by rw [List.length_map, List.length_map]; omega) fun p np => ?_
        walk_at "go"
        refine ⟨Sx.same_tr s1 (Sx.same_tr s2 (Sx.same_new s4 (Sx.new_none s4 np))), p, ?_, _, _, _, _, rfl⟩
        rw [upd_same, vn_app]
    · rintro σ H1 ⟨s1, p1, hp1, v4, v5, v6, v7, rfl⟩
      rw [List.take_length] at hp1
      walk_at "go"
      refine ⟨p1, Ls.flatten.map fun x : Nat => (x : Int), rfl, SqL.of (by rw [List.map_map]; exact hp1), by rw [List.length_map]; omega, fun ns' p2 pr pw np2 => ?_⟩
      have ens : ns' = (List.range n).map fun x : Nat => (x : Int) := by
        refine List.Perm.eq_of_pairwise (le := (· ≤ ·)) (fun a b _ _ h1 h2 => Int.le_antisymm h1 h2) pw ?_ (pr.trans (ok.perm.map _))
        rw [List.pairwise_map]
        exact List.pairwise_lt_range.imp fun h => by omega
      have s2 : Same H1 (upd H1 p2 (.lst (ns'.map V.int))) := Sx.same_new (Sx.same_rfl _) np2
      have hp2 : (upd H1 p2 (.lst (ns'.map V.int))) p2 = some (.lst (RpX.vn (List.range n))) := by
        rw [upd_same, ens, List.map_map]
        rfl
      generalize upd H1 p2 (.lst (ns'.map V.int)) = H2 at s2 hp2
      walk_at "go"
      refine ⟨V.int n, rfl, (n : Int), rfl, RgOk.of_le (by decide) (by omega) (by decide) (by omega), fun q nq => ?_⟩
      have s3 : Same H2 (upd H2 q (.lst (rgV 0 (n : Int)))) := Sx.same_new (Sx.same_rfl _) nq
      have hq3 : (upd H2 q (.lst (rgV 0 (n : Int)))) q = some (.lst (RpX.vn (List.range n))) := by
        rw [upd_same]
        unfold rgV RpX.vn
        rw [show ((n : Int) - 0).toNat = n by omega]
        refine congrArg (fun z => some (HO.lst z)) (List.map_congr_left fun x _ => ?_)
        rw [Int.zero_add]
      generalize upd H2 q (.lst (rgV 0 (n : Int))) = H3 at s3 hq3
      refine ⟨.list (RpX.nums (List.range n)), .list (RpX.nums (List.range n)), .lst (SqL.of (s3 _ _ hp2)) (RpX.dp_nums _), .lst (SqL.of hq3) (RpX.dp_nums _), nums_shaped _, nums_shaped _, ?_⟩
      rw [nums_eqv]
      have s03 := Sx.same_tr s1 (Sx.same_tr s2 s3)
      walk_at "go"
      have hc3 := s03 _ _ hf2
      refine ⟨c, rfl, ⟨_, SqL.of hc3⟩, VrX.for_J (n := Ls.length) (fun i σ H' => Same H3 H' ∧ ∃ v4 v5 v6 v7, σ = [some (.ref a), some (.ref c), some (.int n), some (.ref p1), v4, v5, v6, v7])
        ⟨Sx.same_rfl _, _, _, _, _, rfl⟩ (fun _ _ h => ⟨_, SqL.of (h.1 _ _ hc3), by rw [List.length_map, hf3]; exact Nat.le_refl _⟩) (fun i _ _ hi h => ⟨_, V.ref (ls[i]'(by omega)), SqL.of (h.1 _ _ hc3), by rw [List.getElem?_map, List.getElem?_eq_getElem (by omega)]; rfl⟩) ?_ ?_⟩
      · rintro i y σ H4 H5 hi ⟨s4, v4, v5, v6, v7, rfl⟩ ⟨rfl, hy⟩
        have hil : i < ls.length := by omega
        have hy2 := hy _ (SqL.of (s4 _ _ hc3))
        rw [List.getElem?_map, List.getElem?_eq_getElem hil] at hy2
        obtain rfl : V.ref ls[i] = y := Option.some.inj hy2
        have hrow := s4 _ _ (s03 _ _ (hf4 i _ _ (List.getElem?_eq_getElem hil) (List.getElem?_eq_getElem hi)))
        have hlm : Ls[i] ∈ Ls := List.getElem_mem hi
        have hpw := ok.pw _ hlm
        have hbl := bL _ hlm
        have hln : Ls[i].length ≤ n := by
          rw [← plen]
          exact (List.sublist_flatten_of_mem hlm).length_le
        generalize Ls[i] = row at *
        generalize ls[i] = lr at *
        have s05 := Sx.same_tr s03 s4
        walk_at "go"
        refine tsl ?_
        walk_at "go"
        refine ⟨1, rfl, ?_⟩
        refine tno ?_
        refine ⟨lr, _, rfl, SqL.of hrow, fun p np => ?_⟩
        have s6 : Same H5 (upd H5 p (.lst (cutV (RpX.vn row) (some 1) none))) := Sx.same_new (Sx.same_rfl _) np
        have hp6 : (upd H5 p (.lst (cutV (RpX.vn row) (some 1) none))) p = some (.lst (RpX.vn (row.drop 1))) := by
          rw [upd_same]
          unfold cutV
          have e1 : HT.sIx (RpX.vn row).length 0 (some 1) = min 1 row.length := by
            rw [show (1 : Int) = ((1 : Nat) : Int) from rfl, HT.sIx_nat, List.length_map]
          rw [e1, HT.sIx_none, List.take_of_length_le (by rw [List.length_drop]; exact Nat.le_refl _)]
          cases row with
          | nil => rfl
          | cons x r =>
            rw [show min 1 (x :: r).length = 1 by rw [List.length_cons]; omega]
            rfl
        generalize upd H5 p (.lst (cutV (RpX.vn row) (some 1) none)) = H6 at s6 hp6
        have hr6 := s6 _ _ hrow
        have L6 := hL.same (Sx.same_tr s05 s6)
        refine ⟨lr, p, _, _, rfl, SqL.of hr6, SqL.of hp6, fun D nD => ?_⟩
        refine VrX.lc_J (n := row.length - 1) (fun j H' => Same H6 H' ∧ H' D = some (.lst (List.replicate j (V.bl true)))) ⟨Sx.same_new (Sx.same_rfl _) nD, upd_same⟩
          (fun _ h => ⟨_, _, SqL.of (h.1 _ _ hr6), SqL.of (h.1 _ _ hp6), .inr (by rw [List.length_map, List.length_drop]; exact Nat.le_refl _)⟩) (fun j _ hj h => ⟨_, _, V.int (row[j] : Nat), V.int (row[j + 1] : Nat), SqL.of (h.1 _ _ hr6), SqL.of (h.1 _ _ hp6), by rw [List.getElem?_map, List.getElem?_eq_getElem (by omega)]; rfl, by rw [List.getElem?_map, List.getElem?_drop, Nat.add_comm, List.getElem?_eq_getElem (by omega)]; rfl⟩) ?_ ?_
        · rintro j y H7 H8 hj ⟨s7, hD⟩ ⟨t, x1, y1, rfl, nt, rfl, hx, hy⟩
          have hx2 := hx _ (SqL.of (s7 _ _ hr6))
          have hy2 := hy _ (SqL.of (s7 _ _ hp6))
          rw [List.getElem?_map, List.getElem?_eq_getElem (show j < row.length by omega)] at hx2
          rw [List.getElem?_map, List.getElem?_drop, Nat.add_comm, List.getElem?_eq_getElem (show j + 1 < row.length by omega)] at hy2
          obtain rfl : V.int (row[j] : Nat) = x1 := Option.some.inj hx2
          obtain rfl : V.int (row[j + 1] : Nat) = y1 := Option.some.inj hy2
          have e := List.pairwise_iff_getElem.mp hpw j (j + 1) (by omega) (by omega) (by omega)
          have b1 := hbl _ (List.getElem_mem (show j < row.length by omega))
          have b2 := hbl _ (List.getElem_mem (show j + 1 < row.length by omega))
          have s8 : Same H7 (upd H7 t (.tup [V.int (row[j] : Nat), V.int (row[j + 1] : Nat)])) := Sx.same_new (Sx.same_rfl _) nt
          have ht8 : (upd H7 t (.tup [V.int (row[j] : Nat), V.int (row[j + 1] : Nat)])) t = some (.tup [V.int (row[j] : Nat), V.int (row[j + 1] : Nat)]) := upd_same
          generalize upd H7 t (.tup [V.int (row[j] : Nat), V.int (row[j + 1] : Nat)]) = H8 at s8 ht8
          generalize row[j] = x at *
          generalize row[j + 1] = z at *
          obtain ⟨xs, l, ys, a1, a2, a3, a4⟩ := (L6.same (Sx.same_tr s7 s8)).row b1 b2
          refine Sx.gtup (SqT.of ht8) rfl ?_
          walk_at "go"
          refine ⟨rfl, ?_⟩
          walk_at "go"
          refine Sx.ixL (SqL.of a1) a2 ?_
          walk_at "go"
          refine Sx.ixL (SqL.of a3) a4 ?_
          rw [e]
          refine ⟨_, s8 _ _ hD, by rw [List.length_replicate, sizeLine_eq]; omega, Sx.same_new (Sx.same_tr s7 s8) nD, ?_⟩
          rw [upd_same, List.replicate_succ']
        · rintro H7 ⟨s7, hD⟩
          walk_at "go"
          refine ⟨D, List.replicate (row.length - 1) true, rfl, SqL.of (by rw [List.map_replicate]; exact hD), ?_⟩
          rw [show (List.replicate (row.length - 1) true).all id = true by simp]
          walk_at "go"
          exact ⟨Sx.same_tr s4 (Sx.same_tr s6 s7), _, _, _, _, rfl⟩
      · rintro σ H4 ⟨s4, v4, v5, v6, v7, rfl⟩
        walk_at "go"
        exact k H4 (Sx.same_tr s03 s4)
end
end Wk

set_option Elab.async false
set_option linter.all false
set_option maxRecDepth 100000
set_option maxHeartbeats 2000000
namespace Wk
open PySem PySem.Spec PyProof.Rows L2 NdefX SuX Hk
local macro_rules | `(tactic| walk_at "st") => `(tactic| first
  | with_reducible refine Sx.ret ?_
  | with_reducible refine Sx.retN ?_
  | with_reducible refine Sx.seq ?_
  | with_reducible refine Sx.next ?_
  | with_reducible refine Sx.brk ?_
  | with_reducible refine Sx.cont ?_
  | with_reducible refine Sx.drop ?_
  | with_reducible refine Sx.asg ?_
  | with_reducible refine Sx.gname ?_
  | with_reducible refine Sx.ifS ?_
  | with_reducible refine Sx.var ?_
  | with_reducible refine Sx.con ?_
  | with_reducible refine Sx.op ?_
  | with_reducible refine Sx.un ?_
  | with_reducible refine Sx.cb ?_
  | with_reducible refine Sx.cons ?_
  | with_reducible refine Sx.nil ?_
  | with_reducible refine Sx.call ?_
  | with_reducible refine Sx.test ?_
  | with_reducible refine Sx.tb_ ?_
  | with_reducible refine Sx.bl ?_
  | with_reducible refine Sx.and_ ?_
  | with_reducible refine Sx.or_ ?_
  | with_reducible refine Sx.not_ ?_
  | with_reducible refine Sx.andV ?_
  | with_reducible refine Sx.orV ?_
  | with_reducible refine Sx.notV ?_
  | with_reducible refine Sx.ife ?_
  | with_reducible refine Sx.i0 ?_
  | with_reducible refine Sx.iU ?_
  | with_reducible refine Sx.eqI ?_
  | with_reducible refine Sx.eqS ?_
  | with_reducible refine Sx.neI ?_
  | with_reducible refine Sx.neS ?_
  | with_reducible refine Sx.isN' ?_
  | with_reducible refine Sx.chain ?_
  | with_reducible refine Sx.aug ?_
  | with_reducible refine Sx.ipI' ?_
  | with_reducible refine Sx.ifT ?_
  | with_reducible refine Sx.ifF ?_
  | with_reducible refine Sx.ifnF ?_
  | with_reducible refine Sx.ifnT ?_
  | with_reducible refine Sx.tup ?_
  | with_reducible refine Sx.lst ?_
  | with_reducible refine Sx.fld ?_
  | with_reducible refine Sx.sfld ?_
  | with_reducible refine Sx.meth ?_
  | with_reducible refine Sx.app ?_
  | with_reducible refine Sx.gcons ?_
  | with_reducible refine Sx.gnil ?_
  | with_reducible refine Sx.dget ?_
  | with_reducible refine Sx.din ?_
  | with_reducible refine Sx.dnin ?_
  | with_reducible refine Sx.dput ?_
  | with_reducible refine Sx.forS ?_
  | with_reducible refine Sx.ikeys ?_
  | with_reducible refine Sx.ienumT ?_
  | with_reducible refine Sx.scT ?_
  | with_reducible refine Sx.dc2 ?_
  | with_reducible refine Sx.tru ?_
  | with_reducible refine Sx.mv ?_
  | with_reducible refine Sx.cv ?_
  | with_reducible refine Sx.cw ?_
  | with_reducible refine Sx.join ?_
  | with_reducible refine Sx.lc ?_
  | with_reducible refine Sx.istr ?_
  | with_reducible refine Sx.ilist ?_
  | with_reducible refine Sx.itup ?_
  | with_reducible refine Sx.irng1 ?_
  | with_reducible refine Sx.irng2 ?_
  | with_reducible refine Sx.ienum ?_
  | with_reducible refine Sx.izip ?_
  | with_reducible refine Sx.irev ?_
  | with_reducible refine Sx.iitems ?_
  | with_reducible refine Sx.yes ?_
  | with_reducible refine Sx.js_cons ?_
  | with_reducible refine Sx.js_nil ?_
  | with_reducible refine Sx.fmt ?_
  | with_reducible refine Sx.isi_int ?_
  | with_reducible refine Sx.isi_intb ?_
  | with_reducible refine Sx.isi_str ?_)
local macro_rules | `(tactic| walk_at "go") => `(tactic| repeat walk_at "st")
local macro_rules | `(tactic| walk_at "is") => `(tactic| simp only [Option.isSome_some, Option.isSome_none, Bool.not_true, Bool.not_false])
/-! The law's box. -/
section
variable {P : Program} {w : World} {K : PySem.W.Frag} {mg : Str → Option Value} {base : Heap}
/-- everything but the box's two lists is kept -/
def Kp (b c : Addr) (H H' : Hp) : Prop := ∀ x o, x ≠ b → x ≠ c → H x = some o → H' x = some o
theorem Kp.tr {b c : Addr} {A B C : Hp} (h : Kp b c A B) (h' : Kp b c B C) : Kp b c A C := fun x o h1 h2 e => h' x o h1 h2 (h x o h1 h2 e)
theorem Kp.of {b c : Addr} {A B : Hp} (h : Same A B) : Kp b c A B := fun x o _ _ e => h x o e
theorem Kp.rf {b c : Addr} (A : Hp) : Kp b c A A := fun x o _ _ e => e
theorem Kp.b {b c : Addr} {H : Hp} {o : HO} : Kp b c H (upd H b o) := fun x o' h1 _ e => by rw [upd_ne h1]; exact e
theorem Kp.c {b c : Addr} {H : Hp} {o : HO} : Kp b c H (upd H c o) := fun x o' _ h1 e => by rw [upd_ne h1]; exact e
def BoxAt (H : Hp) (b c : Addr) : Prop := b ≠ c ∧ ∃ (cs : List Int) (a : Nat) (t sd : Int), H b = some (.lst [.ref c, .int (a : Nat), .int t, .int sd]) ∧ H c = some (.lst (cs.map V.int)) ∧ cs.length ≤ 63 ∧ 0 ≤ sd ∧ sd < 2147483647
theorem BoxAt.same {H H' : Hp} {b c : Addr} (s : Same H H') (h : BoxAt H b c) : BoxAt H' b c := let ⟨h0, cs, a, t, sd, h1, h2, h3⟩ := h; ⟨h0, cs, a, t, sd, s _ _ h1, s _ _ h2, h3⟩
/-- what is no list is kept -/
theorem Kp.nl {b c x : Addr} {H H' : Hp} {o : HO} (k : Kp b c H H') (B : BoxAt H b c) (h : H x = some o) (n : ∀ xs, o ≠ .lst xs) : H' x = some o := by
  obtain ⟨_, cs, a, t, sd, h1, h2, _⟩ := B
  refine k x o (fun e => ?_) (fun e => ?_) h
  · rw [e, h1] at h
    exact n _ (Option.some.inj h).symm
  · rw [e, h2] at h
    exact n _ (Option.some.inj h).symm
theorem Kp.none {b c x : Addr} {H H' : Hp} (k : Kp b c H H') (h : H' x = none) (h1 : x ≠ b) (h2 : x ≠ c) : H x = none := by
  cases e : H x with
  | none => rfl
  | some o =>
    have z := k x o h1 h2 e
    rw [z] at h
    cases h
/-- what is new is not in the box -/
theorem BoxAt.nw {H : Hp} {b c x : Addr} (B : BoxAt H b c) (h : H x = none) : x ≠ b ∧ x ≠ c := by
  obtain ⟨_, cs, a, t, sd, h1, h2, _⟩ := B
  exact ⟨fun e => (by rw [e, h1] at h; cases h), fun e => (by rw [e, h2] at h; cases h)⟩
theorem gsub {to ti : TE} {t : TSet} {v : V} {σ : L2.St} {H : Hp} {Q : L2.St → Hp → Prop} (k : to σ H fun o H1 => ti σ H1 fun i H2 => t o i v H2 fun H3 => Q σ H3) : gSub to ti t v σ H Q := k
theorem setL {p : Addr} {xs : List V} {j : Nat} {v : V} {H : Hp} {Q : Hp → Prop} (h : H p = some (.lst xs)) (hj : j < xs.length) (q : Q (upd H p (.lst (xs.set j v)))) : rSetL (.ref p) (.int (j : Nat)) v H Q := by
  refine ⟨p, xs, _, j, rfl, rfl, h, ?_, q⟩
  unfold ixN
  rw [if_pos (by omega), if_pos (by omega), Int.toNat_natCast]
def sp_lbox (K : PySem.W.Frag) : Sp := fun vs H Q _ => ∃ (s : Addr) (ns : List Int), vs = [.ref s] ∧ SqL K H s (ns.map V.int) ∧ ∀ b c H', Same H H' → H b = none → H c = none → BoxAt H' b c → Q (.ref b) H'
theorem ok_law_box (T : Tx K mg) : O__law_box P w K mg base 1 (sp_lbox K) := by
  refine T.F__law_box.ok sc__law_box (fun vs H Q E h => ?_) (fun cdv A outer s H vs Q E hr h => ?_)
  · obtain ⟨s, ns, rfl, _⟩ := h
    rfl
  · obtain ⟨s0, ns, rfl, h1, k⟩ := h
    refine ⟨_, PSs.nox ((pss_cons (ps_setLc (i := 1) (own := [("_law_cell", 2)]) (g := gName 2) (tt := tYes) rfl sc__law_box.nd rfl rfl (sw_true rfl rfl rfl (by decide +kernel)) (show PI _ _ _ (iList K _) from pi_list (pe_slice (Kw.slL K) (pv 0) po_none (po_some (pe_int)))) (blkOk_by (own := [("_law_cell", 2)]) (N := N__law_box) (sc := defScope sd__law_box) (by decide +kernel)) (fun _ _ _ _ _ => (pg_name (i := 2) sc__law_box.nd rfl (Or.inl rfl))) (fun _ _ _ _ _ => pts_nil) (fun _ _ _ _ _ => (pe_ifExp (pt_cmpR op_ge (pv 2) (pe_int) (nomark _)) (pe_callTy call_int1 (by rfl) T.f_int (by decide +kernel) (pa_cons (pv 2) pa_nil)) (pe_op op_sub (pe_int) (pe_op op_mul (pe_int) (pe_callTy call_int1 (by rfl) T.f_int (by decide +kernel) (pa_cons (pv 2) pa_nil))))))) (pss_one (ps_ret (pe_lst (pa_cons (pv 1) (pa_cons (pe_int) (pa_cons (pe_int) (pa_cons (pe_int) pa_nil))))))))), ?_⟩
    walk_at "go"
    refine tsl ?_
    walk_at "go"
    refine tno ?_
    refine ⟨63, rfl, ?_⟩
    refine ⟨s0, _, rfl, h1, fun p np => ?_⟩
    have s1 : Same H (upd H p (.lst (cutV (ns.map V.int) none (some 63)))) := Sx.same_new (Sx.same_rfl _) np
    obtain ⟨ms, hms, lms⟩ : ∃ ms : List Int, cutV (ns.map V.int) none (some 63) = ms.map V.int ∧ ms.length ≤ 63 := by
      refine ⟨ns.take 63, ?_, by rw [List.length_take]; omega⟩
      unfold cutV
      rw [HT.sIx_none, show (63 : Int) = ((63 : Nat) : Int) from rfl, HT.sIx_nat, List.drop_zero, List.length_map, Nat.sub_zero, List.map_take]
      rcases Nat.le_total 63 ns.length with z | z
      · rw [Nat.min_eq_left z]
      · rw [Nat.min_eq_right z, List.take_of_length_le (by rw [List.length_map]; exact Nat.le_refl _), List.take_of_length_le (by rw [List.length_map]; exact z)]
    have hp1 : (upd H p (.lst (cutV (ns.map V.int) none (some 63)))) p = some (.lst (ms.map V.int)) := by rw [upd_same, hms]
    generalize upd H p (.lst (cutV (ns.map V.int) none (some 63))) = H1 at s1 hp1
    refine ⟨p, rfl, ⟨_, SqL.of hp1⟩, fun D nD => ?_⟩
    refine VrX.lc_J (n := ms.length) (fun i H' => Same H1 H' ∧ ∃ cs : List Int, H' D = some (.lst (cs.map V.int)) ∧ cs.length = i) ⟨Sx.same_new (Sx.same_rfl _) nD, [], upd_same, rfl⟩
      (fun _ h => ⟨_, SqL.of (h.1 _ _ hp1), by simp⟩) (fun i _ hi h => ⟨_, V.int ms[i], SqL.of (h.1 _ _ hp1), by rw [List.getElem?_map, List.getElem?_eq_getElem hi]; rfl⟩) ?_ ?_
    · rintro i y H2 H3 hi ⟨s2, cs, hD, hl⟩ ⟨rfl, hy⟩
      have hy2 := hy _ (SqL.of (s2 _ _ hp1))
      rw [List.getElem?_map, List.getElem?_eq_getElem hi] at hy2
      obtain rfl : V.int ms[i] = y := Option.some.inj hy2
      walk_at "go"
      refine ⟨rfl, ?_⟩
      have fin : ∀ x : Int, ∃ acc, H3 D = some (.lst acc) ∧ acc.length < sizeLine ∧ (Same H1 (upd H3 D (.lst (acc ++ [V.int x]))) ∧ ∃ cs : List Int, (upd H3 D (.lst (acc ++ [V.int x]))) D = some (.lst (cs.map V.int)) ∧ cs.length = i + 1) := fun x =>
        ⟨_, hD, by rw [List.length_map, sizeLine_eq]; omega, Sx.same_new s2 nD, cs ++ [x], by rw [upd_same, List.map_append]; rfl, by rw [List.length_append, hl]; rfl⟩
      walk_at "go"
      refine Sx.ifd (fun c1 => ?_) (fun c1 => ?_)
      · walk_at "go"
        refine .inl ⟨_, rfl, ?_⟩
        exact fin _
      · walk_at "go"
        refine .inl ⟨_, rfl, ?_⟩
        refine Sx.iC (.inl (by decide)) ?_
        walk_at "go"
        exact fin _
    · rintro H2 ⟨s2, cs, hD, hl⟩
      walk_at "go"
      refine Sx.nw (by show 4 ≤ _; decide) fun q nq => ?_
      walk_at "go"
      have nDq : D ≠ q := ne_of_none hD nq
      refine k q D _ (Sx.same_tr s1 (Sx.same_new s2 (Sx.new_none s2 nq))) (Sx.new_none s1 (Sx.new_none s2 nq)) (Sx.new_none s1 nD) ⟨nDq.symm, cs, 0, 0, 1, upd_same, ?_, by omega, by decide, by decide⟩
      rw [upd_ne nDq]
      exact hD
theorem setSd {H : Hp} {b : Addr} {x1 x2 x3 x4 : V} {x : Int} {Q : Hp → Prop} (h : H b = some (.lst [x1, x2, x3, x4])) (q : ∀ sd2 : Int, 0 ≤ sd2 → sd2 < 2147483647 → Q (upd H b (.lst [x1, x2, x3, .int sd2]))) : rSetL (.ref b) (.int 3) (.int (x.fmod 2147483647)) H Q :=
  setL (j := 3) h (by show 3 < 4; decide) (q _ (Int.fmod_nonneg_of_pos _ (by decide)) (Int.fmod_lt_of_pos _ (by decide)))
def sp_ltake : Sp := fun vs H Q _ => ∃ (b c : Addr) (m : Int), vs = [.ref b, .int m] ∧ BoxAt H b c ∧ 0 < m ∧ m < 1000000 ∧ ∀ (v : Int) H', Kp b c H H' → BoxAt H' b c → 0 ≤ v → v < m → Q (.int v) H'
theorem ok_law_take (T : Tx K mg) : O__law_take P w K mg base 1 sp_ltake := by
  refine T.F__law_take.ok sc__law_take (fun vs H Q E h => ?_) (fun cdv A outer s H vs Q E hr h => ?_)
  · obtain ⟨b, c, m, rfl, _⟩ := h
    rfl
  · obtain ⟨b, c, m, rfl, B, m0, m1, k⟩ := h
    refine ⟨_, PSs.nox ((pss_cons (ps_set (i := 2) sc__law_take.nd rfl (Or.inl rfl) (pe_ix (Kw.ixL K) (pv 0) (pe_int) (fun _ _ => rfl))) (pss_cons (ps_set (i := 3) sc__law_take.nd rfl (Or.inl rfl) (pe_ix (Kw.ixL K) (pv 0) (pe_int) (fun _ _ => rfl))) (pss_cons (ps_set (i := 4) sc__law_take.nd rfl (Or.inl rfl) (pe_ix (Kw.ixL K) (pv 0) (pe_int) (fun _ _ => rfl))) (pss_cons (ps_asg (pe_op op_add (pv 4) (pe_int)) (pg_sub (pv 0) (pe_int) set_list)) (pss_cons (ps_if (PW.pt (pw_and (pt_cmpR op_lt (pv 3) (pe_callB (Kw.len K) (by rfl) T.f_len (by decide +kernel) (pa_cons (pv 2) pa_nil)) (nomark _)) (pw_and1 (pt_cmpR op_ge (pe_ix (Kw.ixL K) (pv 2) (pv 3) (fun _ _ => rfl)) (pe_op op_pow (pe_int) (pe_int)) (nomark _))))) (pss_cons (ps_set (i := 5) sc__law_take.nd rfl (Or.inl rfl) (pe_ix (Kw.ixL K) (pv 2) (pv 3) (fun _ _ => rfl))) (pss_cons (ps_asg (pe_op op_fdivN (pv 5) (pv 1)) (pg_sub (pv 2) (pv 3) set_list)) (pss_cons (ps_if (pt_cmpR op_lt (pe_ix (Kw.ixL K) (pv 2) (pv 3) (fun _ _ => rfl)) (pe_op op_pow (pe_int) (pe_int)) (nomark _)) (pss_one (ps_asg (pe_op op_add (pv 3) (pe_int)) (pg_sub (pv 0) (pe_int) set_list))) pss_nil) (pss_one (ps_ret (pe_op op_modN (pe_callTy call_int1 (by rfl) T.f_int (by decide +kernel) (pa_cons (pv 5) pa_nil)) (pv 1))))))) pss_nil) (pss_cons (ps_set (i := 5) sc__law_take.nd rfl (Or.inl rfl) (pv 4)) (pss_cons (ps_if (pt_cmpR op_lt (pv 3) (pe_callB (Kw.len K) (by rfl) T.f_len (by decide +kernel) (pa_cons (pv 2) pa_nil)) (nomark _)) (pss_one (ps_set (i := 5) sc__law_take.nd rfl (Or.inl rfl) (pe_ix (Kw.ixL K) (pv 2) (pv 3) (fun _ _ => rfl)))) (pss_one (ps_if (show PT _ _ (Kw.tTru K _) from pt_truth (pv 2) (by intro _; rfl)) (pss_one (ps_set (i := 5) sc__law_take.nd rfl (Or.inl rfl) (pe_ix (Kw.ixL K) (pv 2) (pe_op op_modN (pv 4) (pe_callB (Kw.len K) (by rfl) T.f_len (by decide +kernel) (pa_cons (pv 2) pa_nil))) (fun _ _ => rfl)))) pss_nil))) (pss_cons (ps_asg (pe_op op_modN (pe_op op_add (pe_op op_add (pe_op op_add (pe_op op_mul (pe_callTy call_int1 (by rfl) T.f_int (by decide +kernel) (pa_cons (pe_ix (Kw.ixL K) (pv 0) (pe_int) (fun _ _ => rfl)) pa_nil)) (pe_int)) (pe_op op_modN (pe_callTy call_int1 (by rfl) T.f_int (by decide +kernel) (pa_cons (pv 5) pa_nil)) (pe_int))) (pv 4)) (pe_int)) (pe_int)) (pg_sub (pv 0) (pe_int) set_list)) (pss_cons (ps_if (PW.pt (pw_and (pt_cmpR op_eq (pe_op op_modN (pv 4) (pe_int)) (pe_int) (nomark _)) (pw_and1 (pt_cmpR op_lt (pv 3) (pe_callB (Kw.len K) (by rfl) T.f_len (by decide +kernel) (pa_cons (pv 2) pa_nil)) (nomark _))))) (pss_one (ps_asg (pe_op op_add (pv 3) (pe_int)) (pg_sub (pv 0) (pe_int) set_list))) pss_nil) (pss_one (ps_ret (pe_op op_modN (pe_op op_fdivN (pe_op op_modN (pe_op op_mul (pe_callTy call_int1 (by rfl) T.f_int (by decide +kernel) (pa_cons (pe_ix (Kw.ixL K) (pv 0) (pe_int) (fun _ _ => rfl)) pa_nil)) (pe_callTy call_int1 (by rfl) T.f_int (by decide +kernel) (pa_cons (pe_ix (Kw.ixL K) (pv 0) (pe_int) (fun _ _ => rfl)) pa_nil))) (pe_int)) (pe_int)) (pv 1)))))))))))))), ?_⟩
    obtain ⟨nbc, cs, a, t, sd, hb, hc, hl, sd0, sd1⟩ := id B
    walk_at "go"
    refine Sx.ixL (SqL.of hb) (v := .ref c) (atI_nat (j := 0) rfl) ?_
    walk_at "go"
    refine Sx.ixL (SqL.of hb) (v := .int (a : Nat)) (atI_nat (j := 1) rfl) ?_
    walk_at "go"
    refine Sx.ixL (SqL.of hb) (v := .int t) (atI_nat (j := 2) rfl) ?_
    walk_at "go"
    refine gsub ?_
    walk_at "go"
    refine setL (j := 2) hb (by show 2 < 4; decide) ?_
    have k1 : Kp b c H (upd H b (.lst ([.ref c, .int (a : Nat), .int t, .int sd].set 2 (.int (t + 1))))) := Kp.b
    have hb1 : (upd H b (.lst ([.ref c, .int (a : Nat), .int t, .int sd].set 2 (.int (t + 1))))) b = some (.lst [.ref c, .int (a : Nat), .int (t + 1), .int sd]) := upd_same
    have hc1 : (upd H b (.lst ([.ref c, .int (a : Nat), .int t, .int sd].set 2 (.int (t + 1))))) c = some (.lst (cs.map V.int)) := by rw [upd_ne nbc.symm]; exact hc
    generalize upd H b (.lst ([.ref c, .int (a : Nat), .int t, .int sd].set 2 (.int (t + 1)))) = H1 at k1 hb1 hc1
    walk_at "go"
    refine Sx.lenL (SqL.of hc1) ?_
    walk_at "go"
    have e18 : ∀ x : Int, x < (10 : Int) ^ (18 : Int).toNat ∨ (10 : Int) ^ (18 : Int).toNat ≤ x := fun x => by
      generalize (10 : Int) ^ (18 : Int).toNat = y
      omega
    have p18 : CPow 10 18 := ⟨by decide, by decide, by decide⟩
    have ix : ∀ x, cs[a]? = some x → atI (cs.map V.int) ((a : Nat) : Int) = some (V.int x) := fun x hx => atI_nat (by rw [List.getElem?_map, hx]; rfl)
    have lt1 : a < cs.length → ((a : Nat) : Int) < ((cs.map V.int).length : Nat) := fun z => by rw [List.length_map]; omega
    have lt2 : ¬ a < cs.length → ¬ ((a : Nat) : Int) < ((cs.map V.int).length : Nat) := fun z => by rw [List.length_map]; omega
    have four : (∃ x, a < cs.length ∧ cs[a]? = some x ∧ (10 : Int) ^ (18 : Int).toNat ≤ x) ∨ (∃ x, a < cs.length ∧ cs[a]? = some x ∧ x < (10 : Int) ^ (18 : Int).toNat) ∨ (¬ a < cs.length ∧ cs ≠ []) ∨ (¬ a < cs.length ∧ cs = []) := by
      by_cases h : a < cs.length
      · rcases e18 cs[a] with z | z
        · exact .inr (.inl ⟨_, h, List.getElem?_eq_getElem h, z⟩)
        · exact .inl ⟨_, h, List.getElem?_eq_getElem h, z⟩
      · by_cases h2 : cs = []
        · exact .inr (.inr (.inr ⟨h, h2⟩))
        · exact .inr (.inr (.inl ⟨h, h2⟩))
    rcases four with ⟨x, h1, hx, h2⟩ | ⟨x, h1, hx, h2⟩ | ⟨h1, h2⟩ | ⟨h1, h2⟩
    · refine Sx.dT (lt1 h1) ?_
      walk_at "go"
      refine Sx.ixL (SqL.of hc1) (ix x hx) ?_
      walk_at "go"
      refine Sx.iC p18 ?_
      walk_at "go"
      refine Sx.dT h2 ?_
      walk_at "go"
      refine Sx.ixL (SqL.of hc1) (ix x hx) ?_
      walk_at "go"
      refine Sx.iC ⟨by omega, by omega⟩ ?_
      walk_at "go"
      refine gsub ?_
      walk_at "go"
      refine setL hc1 (by rw [List.length_map]; exact h1) ?_
      generalize x.fdiv m = q
      have k2 : Kp b c H1 (upd H1 c (.lst ((cs.map V.int).set a (.int q)))) := Kp.c
      have hc2 : (upd H1 c (.lst ((cs.map V.int).set a (.int q)))) c = some (.lst ((cs.set a q).map V.int)) := by rw [upd_same, List.map_set]
      have hb2 : (upd H1 c (.lst ((cs.map V.int).set a (.int q)))) b = some (.lst [.ref c, .int (a : Nat), .int (t + 1), .int sd]) := by rw [upd_ne nbc]; exact hb1
      generalize upd H1 c (.lst ((cs.map V.int).set a (.int q))) = H2 at k2 hb2 hc2
      have q2 : (cs.set a q)[a]? = some q := List.getElem?_set_self h1
      walk_at "go"
      refine Sx.ixL (SqL.of hc2) (atI_nat (by rw [List.getElem?_map, q2]; rfl)) ?_
      walk_at "go"
      refine Sx.iC p18 ?_
      have fin : 0 ≤ x.fmod m ∧ x.fmod m < m := ⟨Int.fmod_nonneg_of_pos _ m0, Int.fmod_lt_of_pos _ m0⟩
      walk_at "go"
      refine Sx.ifd (fun c1 => ?_) (fun c1 => ?_)
      · walk_at "go"
        refine gsub ?_
        walk_at "go"
        refine setL (j := 1) hb2 (by show 1 < 4; decide) ?_
        walk_at "go"
        refine .inl ⟨_, rfl, ?_⟩
        walk_at "go"
        refine Sx.iC (by omega) ?_
        exact k _ _ (k1.tr (k2.tr Kp.b)) ⟨nbc, cs.set a q, a + 1, t + 1, sd, upd_same, by rw [upd_ne nbc.symm]; exact hc2, by rw [List.length_set]; exact hl, sd0, sd1⟩ fin.1 fin.2
      · walk_at "go"
        refine .inl ⟨_, rfl, ?_⟩
        walk_at "go"
        refine Sx.iC (by omega) ?_
        exact k _ _ (k1.tr k2) ⟨nbc, cs.set a q, a, t + 1, sd, hb2, hc2, by rw [List.length_set]; exact hl, sd0, sd1⟩ fin.1 fin.2
    · refine Sx.dT (lt1 h1) ?_
      walk_at "go"
      refine Sx.ixL (SqL.of hc1) (ix x hx) ?_
      walk_at "go"
      refine Sx.iC p18 ?_
      walk_at "go"
      refine Sx.dF (fun z => absurd (Int.lt_of_lt_of_le h2 z) (Int.lt_irrefl _)) ?_
      walk_at "go"
      refine Sx.lenL (SqL.of hc1) ?_
      walk_at "go"
      refine Sx.dT (lt1 h1) ?_
      walk_at "go"
      refine Sx.ixL (SqL.of hc1) (ix x hx) ?_
      walk_at "go"
      refine Sx.ixL (SqL.of hb1) (v := .int sd) (atI_nat (j := 3) rfl) ?_
      walk_at "go"
      refine .inl ⟨_, rfl, ?_⟩
      walk_at "go"
      refine Sx.iC (.inr ⟨by decide, by decide⟩) ?_
      walk_at "go"
      refine .inl ⟨_, rfl, ?_⟩
      walk_at "go"
      refine Sx.iC (by decide) ?_
      walk_at "go"
      refine Sx.iC (by decide) ?_
      walk_at "go"
      refine gsub ?_
      walk_at "go"
      refine setSd hb1 fun sd2 p0 p1 => ?_
      have k2 : Kp b c H1 (upd H1 b (.lst [.ref c, .int (a : Nat), .int (t + 1), .int sd2])) := Kp.b
      have hb2 : (upd H1 b (.lst [.ref c, .int (a : Nat), .int (t + 1), .int sd2])) b = some (.lst [.ref c, .int (a : Nat), .int (t + 1), .int sd2]) := upd_same
      have hc2 : (upd H1 b (.lst [.ref c, .int (a : Nat), .int (t + 1), .int sd2])) c = some (.lst (cs.map V.int)) := by rw [upd_ne nbc.symm]; exact hc1
      generalize upd H1 b (.lst [.ref c, .int (a : Nat), .int (t + 1), .int sd2]) = H2 at k2 hb2 hc2
      walk_at "go"
      refine Sx.iC (by decide) ?_
      walk_at "go"
      have three : ¬ t.fmod 3 = 2 ∨ (t.fmod 3 = 2 ∧ ¬ a < cs.length) ∨ (t.fmod 3 = 2 ∧ a < cs.length) := by
        by_cases z1 : t.fmod 3 = 2
        · by_cases z2 : a < cs.length
          · exact .inr (.inr ⟨z1, z2⟩)
          · exact .inr (.inl ⟨z1, z2⟩)
        · exact .inl z1
      rcases three with c1 | ⟨c1, c2⟩ | ⟨c1, c2⟩
      · refine Sx.dF c1 ?_
        have kk := k1.tr k2
        have BB : BoxAt H2 b c := ⟨nbc, cs, a, t + 1, sd2, hb2, hc2, hl, p0, p1⟩
        walk_at "go"
        refine Sx.ixL (SqL.of hb2) (v := .int sd2) (atI_nat (j := 3) rfl) ?_
        walk_at "go"
        refine .inl ⟨_, rfl, ?_⟩
        walk_at "go"
        refine Sx.ixL (SqL.of hb2) (v := .int sd2) (atI_nat (j := 3) rfl) ?_
        walk_at "go"
        refine .inl ⟨_, rfl, ?_⟩
        refine Sx.iC (.inl ⟨by omega, by omega⟩) ?_
        walk_at "go"
        refine Sx.iC (by decide) ?_
        walk_at "go"
        refine Sx.iC ⟨by decide, by decide⟩ ?_
        walk_at "go"
        refine Sx.iC (by omega) ?_
        exact k _ _ kk BB (Int.fmod_nonneg_of_pos _ m0) (Int.fmod_lt_of_pos _ m0)
      · refine Sx.dT c1 ?_
        walk_at "go"
        refine Sx.lenL (SqL.of hc2) ?_
        walk_at "go"
        refine Sx.dF (lt2 c2) ?_
        have kk := k1.tr k2
        have BB : BoxAt H2 b c := ⟨nbc, cs, a, t + 1, sd2, hb2, hc2, hl, p0, p1⟩
        walk_at "go"
        refine Sx.ixL (SqL.of hb2) (v := .int sd2) (atI_nat (j := 3) rfl) ?_
        walk_at "go"
        refine .inl ⟨_, rfl, ?_⟩
        walk_at "go"
        refine Sx.ixL (SqL.of hb2) (v := .int sd2) (atI_nat (j := 3) rfl) ?_
        walk_at "go"
        refine .inl ⟨_, rfl, ?_⟩
        refine Sx.iC (.inl ⟨by omega, by omega⟩) ?_
        walk_at "go"
        refine Sx.iC (by decide) ?_
        walk_at "go"
        refine Sx.iC ⟨by decide, by decide⟩ ?_
        walk_at "go"
        refine Sx.iC (by omega) ?_
        exact k _ _ kk BB (Int.fmod_nonneg_of_pos _ m0) (Int.fmod_lt_of_pos _ m0)
      · refine Sx.dT c1 ?_
        walk_at "go"
        refine Sx.lenL (SqL.of hc2) ?_
        walk_at "go"
        refine Sx.dT (lt1 c2) ?_
        walk_at "go"
        refine gsub ?_
        walk_at "go"
        refine setL (j := 1) hb2 (by show 1 < 4; decide) ?_
        have kk := k1.tr (k2.tr (Kp.b (o := .lst ([.ref c, .int (a : Nat), .int (t + 1), .int sd2].set 1 (.int ((a : Nat) + 1))))))
        have BB : BoxAt (upd H2 b (.lst ([.ref c, .int (a : Nat), .int (t + 1), .int sd2].set 1 (.int ((a : Nat) + 1))))) b c := ⟨nbc, cs, a + 1, t + 1, sd2, upd_same, by rw [upd_ne nbc.symm]; exact hc2, hl, p0, p1⟩
        replace hb2 : (upd H2 b (.lst ([.ref c, .int (a : Nat), .int (t + 1), .int sd2].set 1 (.int ((a : Nat) + 1))))) b = some (.lst [.ref c, .int ((a : Nat) + 1), .int (t + 1), .int sd2]) := upd_same
        generalize upd H2 b (.lst ([.ref c, .int (a : Nat), .int (t + 1), .int sd2].set 1 (.int ((a : Nat) + 1)))) = H2 at kk BB hb2
        walk_at "go"
        refine Sx.ixL (SqL.of hb2) (v := .int sd2) (atI_nat (j := 3) rfl) ?_
        walk_at "go"
        refine .inl ⟨_, rfl, ?_⟩
        walk_at "go"
        refine Sx.ixL (SqL.of hb2) (v := .int sd2) (atI_nat (j := 3) rfl) ?_
        walk_at "go"
        refine .inl ⟨_, rfl, ?_⟩
        refine Sx.iC (.inl ⟨by omega, by omega⟩) ?_
        walk_at "go"
        refine Sx.iC (by decide) ?_
        walk_at "go"
        refine Sx.iC ⟨by decide, by decide⟩ ?_
        walk_at "go"
        refine Sx.iC (by omega) ?_
        exact k _ _ kk BB (Int.fmod_nonneg_of_pos _ m0) (Int.fmod_lt_of_pos _ m0)
    · refine Sx.dF (lt2 h1) ?_
      walk_at "go"
      refine Sx.lenL (SqL.of hc1) ?_
      walk_at "go"
      refine Sx.dF (lt2 h1) ?_
      walk_at "go"
      refine Sx.truL (SqL.of hc1) ?_
      refine Sx.bT (by cases cs with
        | nil => exact absurd rfl h2
        | cons _ _ => rfl) ?_
      walk_at "go"
      refine Sx.lenL (SqL.of hc1) ?_
      have lp : 0 < cs.length := List.length_pos_iff.mpr h2
      refine Sx.iC (by rw [List.length_map]; omega) ?_
      obtain ⟨x, hx⟩ : ∃ x, atI (cs.map V.int) (t.fmod ((cs.map V.int).length : Nat)) = some (V.int x) := by
        rw [List.length_map]
        have z0 : 0 ≤ t.fmod (cs.length : Nat) := Int.fmod_nonneg_of_pos _ (by omega)
        have z1 : t.fmod (cs.length : Nat) < cs.length := Int.fmod_lt_of_pos _ (by omega)
        generalize t.fmod (cs.length : Nat) = z at z0 z1
        obtain ⟨j, rfl⟩ := Int.eq_ofNat_of_zero_le z0
        have hj : j < cs.length := by omega
        exact ⟨cs[j], atI_nat (by rw [List.getElem?_map, List.getElem?_eq_getElem hj]; rfl)⟩
      refine Sx.ixL (SqL.of hc1) hx ?_
      walk_at "go"
      refine Sx.ixL (SqL.of hb1) (v := .int sd) (atI_nat (j := 3) rfl) ?_
      walk_at "go"
      refine .inl ⟨_, rfl, ?_⟩
      walk_at "go"
      refine Sx.iC (.inr ⟨by decide, by decide⟩) ?_
      walk_at "go"
      refine .inl ⟨_, rfl, ?_⟩
      walk_at "go"
      refine Sx.iC (by decide) ?_
      walk_at "go"
      refine Sx.iC (by decide) ?_
      walk_at "go"
      refine gsub ?_
      walk_at "go"
      refine setSd hb1 fun sd2 p0 p1 => ?_
      have k2 : Kp b c H1 (upd H1 b (.lst [.ref c, .int (a : Nat), .int (t + 1), .int sd2])) := Kp.b
      have hb2 : (upd H1 b (.lst [.ref c, .int (a : Nat), .int (t + 1), .int sd2])) b = some (.lst [.ref c, .int (a : Nat), .int (t + 1), .int sd2]) := upd_same
      have hc2 : (upd H1 b (.lst [.ref c, .int (a : Nat), .int (t + 1), .int sd2])) c = some (.lst (cs.map V.int)) := by rw [upd_ne nbc.symm]; exact hc1
      generalize upd H1 b (.lst [.ref c, .int (a : Nat), .int (t + 1), .int sd2]) = H2 at k2 hb2 hc2
      walk_at "go"
      refine Sx.iC (by decide) ?_
      walk_at "go"
      have three : ¬ t.fmod 3 = 2 ∨ (t.fmod 3 = 2 ∧ ¬ a < cs.length) ∨ (t.fmod 3 = 2 ∧ a < cs.length) := by
        by_cases z1 : t.fmod 3 = 2
        · by_cases z2 : a < cs.length
          · exact .inr (.inr ⟨z1, z2⟩)
          · exact .inr (.inl ⟨z1, z2⟩)
        · exact .inl z1
      rcases three with c1 | ⟨c1, c2⟩ | ⟨c1, c2⟩
      · refine Sx.dF c1 ?_
        have kk := k1.tr k2
        have BB : BoxAt H2 b c := ⟨nbc, cs, a, t + 1, sd2, hb2, hc2, hl, p0, p1⟩
        walk_at "go"
        refine Sx.ixL (SqL.of hb2) (v := .int sd2) (atI_nat (j := 3) rfl) ?_
        walk_at "go"
        refine .inl ⟨_, rfl, ?_⟩
        walk_at "go"
        refine Sx.ixL (SqL.of hb2) (v := .int sd2) (atI_nat (j := 3) rfl) ?_
        walk_at "go"
        refine .inl ⟨_, rfl, ?_⟩
        refine Sx.iC (.inl ⟨by omega, by omega⟩) ?_
        walk_at "go"
        refine Sx.iC (by decide) ?_
        walk_at "go"
        refine Sx.iC ⟨by decide, by decide⟩ ?_
        walk_at "go"
        refine Sx.iC (by omega) ?_
        exact k _ _ kk BB (Int.fmod_nonneg_of_pos _ m0) (Int.fmod_lt_of_pos _ m0)
      · refine Sx.dT c1 ?_
        walk_at "go"
        refine Sx.lenL (SqL.of hc2) ?_
        walk_at "go"
        refine Sx.dF (lt2 c2) ?_
        have kk := k1.tr k2
        have BB : BoxAt H2 b c := ⟨nbc, cs, a, t + 1, sd2, hb2, hc2, hl, p0, p1⟩
        walk_at "go"
        refine Sx.ixL (SqL.of hb2) (v := .int sd2) (atI_nat (j := 3) rfl) ?_
        walk_at "go"
        refine .inl ⟨_, rfl, ?_⟩
        walk_at "go"
        refine Sx.ixL (SqL.of hb2) (v := .int sd2) (atI_nat (j := 3) rfl) ?_
        walk_at "go"
        refine .inl ⟨_, rfl, ?_⟩
        refine Sx.iC (.inl ⟨by omega, by omega⟩) ?_
        walk_at "go"
        refine Sx.iC (by decide) ?_
        walk_at "go"
        refine Sx.iC ⟨by decide, by decide⟩ ?_
        walk_at "go"
        refine Sx.iC (by omega) ?_
        exact k _ _ kk BB (Int.fmod_nonneg_of_pos _ m0) (Int.fmod_lt_of_pos _ m0)
      · refine Sx.dT c1 ?_
        walk_at "go"
        refine Sx.lenL (SqL.of hc2) ?_
        walk_at "go"
        refine Sx.dT (lt1 c2) ?_
        walk_at "go"
        refine gsub ?_
        walk_at "go"
        refine setL (j := 1) hb2 (by show 1 < 4; decide) ?_
        have kk := k1.tr (k2.tr (Kp.b (o := .lst ([.ref c, .int (a : Nat), .int (t + 1), .int sd2].set 1 (.int ((a : Nat) + 1))))))
        have BB : BoxAt (upd H2 b (.lst ([.ref c, .int (a : Nat), .int (t + 1), .int sd2].set 1 (.int ((a : Nat) + 1))))) b c := ⟨nbc, cs, a + 1, t + 1, sd2, upd_same, by rw [upd_ne nbc.symm]; exact hc2, hl, p0, p1⟩
        replace hb2 : (upd H2 b (.lst ([.ref c, .int (a : Nat), .int (t + 1), .int sd2].set 1 (.int ((a : Nat) + 1))))) b = some (.lst [.ref c, .int ((a : Nat) + 1), .int (t + 1), .int sd2]) := upd_same
        generalize upd H2 b (.lst ([.ref c, .int (a : Nat), .int (t + 1), .int sd2].set 1 (.int ((a : Nat) + 1)))) = H2 at kk BB hb2
        walk_at "go"
        refine Sx.ixL (SqL.of hb2) (v := .int sd2) (atI_nat (j := 3) rfl) ?_
        walk_at "go"
        refine .inl ⟨_, rfl, ?_⟩
        walk_at "go"
        refine Sx.ixL (SqL.of hb2) (v := .int sd2) (atI_nat (j := 3) rfl) ?_
        walk_at "go"
        refine .inl ⟨_, rfl, ?_⟩
        refine Sx.iC (.inl ⟨by omega, by omega⟩) ?_
        walk_at "go"
        refine Sx.iC (by decide) ?_
        walk_at "go"
        refine Sx.iC ⟨by decide, by decide⟩ ?_
        walk_at "go"
        refine Sx.iC (by omega) ?_
        exact k _ _ kk BB (Int.fmod_nonneg_of_pos _ m0) (Int.fmod_lt_of_pos _ m0)
    · refine Sx.dF (lt2 h1) ?_
      walk_at "go"
      refine Sx.lenL (SqL.of hc1) ?_
      walk_at "go"
      refine Sx.dF (lt2 h1) ?_
      walk_at "go"
      refine Sx.truL (SqL.of hc1) ?_
      refine Sx.bF (by rw [h2]; rfl) ?_
      walk_at "go"
      refine Sx.ixL (SqL.of hb1) (v := .int sd) (atI_nat (j := 3) rfl) ?_
      walk_at "go"
      refine .inl ⟨_, rfl, ?_⟩
      walk_at "go"
      refine Sx.iC (.inr ⟨by decide, by decide⟩) ?_
      walk_at "go"
      refine .inl ⟨_, rfl, ?_⟩
      walk_at "go"
      refine Sx.iC (by decide) ?_
      walk_at "go"
      refine Sx.iC (by decide) ?_
      walk_at "go"
      refine gsub ?_
      walk_at "go"
      refine setSd hb1 fun sd2 p0 p1 => ?_
      have k2 : Kp b c H1 (upd H1 b (.lst [.ref c, .int (a : Nat), .int (t + 1), .int sd2])) := Kp.b
      have hb2 : (upd H1 b (.lst [.ref c, .int (a : Nat), .int (t + 1), .int sd2])) b = some (.lst [.ref c, .int (a : Nat), .int (t + 1), .int sd2]) := upd_same
      have hc2 : (upd H1 b (.lst [.ref c, .int (a : Nat), .int (t + 1), .int sd2])) c = some (.lst (cs.map V.int)) := by rw [upd_ne nbc.symm]; exact hc1
      generalize upd H1 b (.lst [.ref c, .int (a : Nat), .int (t + 1), .int sd2]) = H2 at k2 hb2 hc2
      walk_at "go"
      refine Sx.iC (by decide) ?_
      walk_at "go"
      have three : ¬ t.fmod 3 = 2 ∨ (t.fmod 3 = 2 ∧ ¬ a < cs.length) ∨ (t.fmod 3 = 2 ∧ a < cs.length) := by
        by_cases z1 : t.fmod 3 = 2
        · by_cases z2 : a < cs.length
          · exact .inr (.inr ⟨z1, z2⟩)
          · exact .inr (.inl ⟨z1, z2⟩)
        · exact .inl z1
      rcases three with c1 | ⟨c1, c2⟩ | ⟨c1, c2⟩
      · refine Sx.dF c1 ?_
        have kk := k1.tr k2
        have BB : BoxAt H2 b c := ⟨nbc, cs, a, t + 1, sd2, hb2, hc2, hl, p0, p1⟩
        walk_at "go"
        refine Sx.ixL (SqL.of hb2) (v := .int sd2) (atI_nat (j := 3) rfl) ?_
        walk_at "go"
        refine .inl ⟨_, rfl, ?_⟩
        walk_at "go"
        refine Sx.ixL (SqL.of hb2) (v := .int sd2) (atI_nat (j := 3) rfl) ?_
        walk_at "go"
        refine .inl ⟨_, rfl, ?_⟩
        refine Sx.iC (.inl ⟨by omega, by omega⟩) ?_
        walk_at "go"
        refine Sx.iC (by decide) ?_
        walk_at "go"
        refine Sx.iC ⟨by decide, by decide⟩ ?_
        walk_at "go"
        refine Sx.iC (by omega) ?_
        exact k _ _ kk BB (Int.fmod_nonneg_of_pos _ m0) (Int.fmod_lt_of_pos _ m0)
      · refine Sx.dT c1 ?_
        walk_at "go"
        refine Sx.lenL (SqL.of hc2) ?_
        walk_at "go"
        refine Sx.dF (lt2 c2) ?_
        have kk := k1.tr k2
        have BB : BoxAt H2 b c := ⟨nbc, cs, a, t + 1, sd2, hb2, hc2, hl, p0, p1⟩
        walk_at "go"
        refine Sx.ixL (SqL.of hb2) (v := .int sd2) (atI_nat (j := 3) rfl) ?_
        walk_at "go"
        refine .inl ⟨_, rfl, ?_⟩
        walk_at "go"
        refine Sx.ixL (SqL.of hb2) (v := .int sd2) (atI_nat (j := 3) rfl) ?_
        walk_at "go"
        refine .inl ⟨_, rfl, ?_⟩
        refine Sx.iC (.inl ⟨by omega, by omega⟩) ?_
        walk_at "go"
        refine Sx.iC (by decide) ?_
        walk_at "go"
        refine Sx.iC ⟨by decide, by decide⟩ ?_
        walk_at "go"
        refine Sx.iC (by omega) ?_
        exact k _ _ kk BB (Int.fmod_nonneg_of_pos _ m0) (Int.fmod_lt_of_pos _ m0)
      · refine Sx.dT c1 ?_
        walk_at "go"
        refine Sx.lenL (SqL.of hc2) ?_
        walk_at "go"
        refine Sx.dT (lt1 c2) ?_
        walk_at "go"
        refine gsub ?_
        walk_at "go"
        refine setL (j := 1) hb2 (by show 1 < 4; decide) ?_
        have kk := k1.tr (k2.tr (Kp.b (o := .lst ([.ref c, .int (a : Nat), .int (t + 1), .int sd2].set 1 (.int ((a : Nat) + 1))))))
        have BB : BoxAt (upd H2 b (.lst ([.ref c, .int (a : Nat), .int (t + 1), .int sd2].set 1 (.int ((a : Nat) + 1))))) b c := ⟨nbc, cs, a + 1, t + 1, sd2, upd_same, by rw [upd_ne nbc.symm]; exact hc2, hl, p0, p1⟩
        replace hb2 : (upd H2 b (.lst ([.ref c, .int (a : Nat), .int (t + 1), .int sd2].set 1 (.int ((a : Nat) + 1))))) b = some (.lst [.ref c, .int ((a : Nat) + 1), .int (t + 1), .int sd2]) := upd_same
        generalize upd H2 b (.lst ([.ref c, .int (a : Nat), .int (t + 1), .int sd2].set 1 (.int ((a : Nat) + 1)))) = H2 at kk BB hb2
        walk_at "go"
        refine Sx.ixL (SqL.of hb2) (v := .int sd2) (atI_nat (j := 3) rfl) ?_
        walk_at "go"
        refine .inl ⟨_, rfl, ?_⟩
        walk_at "go"
        refine Sx.ixL (SqL.of hb2) (v := .int sd2) (atI_nat (j := 3) rfl) ?_
        walk_at "go"
        refine .inl ⟨_, rfl, ?_⟩
        refine Sx.iC (.inl ⟨by omega, by omega⟩) ?_
        walk_at "go"
        refine Sx.iC (by decide) ?_
        walk_at "go"
        refine Sx.iC ⟨by decide, by decide⟩ ?_
        walk_at "go"
        refine Sx.iC (by omega) ?_
        exact k _ _ kk BB (Int.fmod_nonneg_of_pos _ m0) (Int.fmod_lt_of_pos _ m0)
end
end Wk

set_option Elab.async false
set_option linter.all false
set_option maxRecDepth 100000
set_option maxHeartbeats 2000000
namespace Wk
open PySem PySem.Spec PyProof.Rows L2 NdefX SuX Hk
local macro_rules | `(tactic| walk_at "st") => `(tactic| first
  | with_reducible refine Sx.ret ?_
  | with_reducible refine Sx.retN ?_
  | with_reducible refine Sx.seq ?_
  | with_reducible refine Sx.next ?_
  | with_reducible refine Sx.brk ?_
  | with_reducible refine Sx.cont ?_
  | with_reducible refine Sx.drop ?_
  | with_reducible refine Sx.asg ?_
  | with_reducible refine Sx.gname ?_
  | with_reducible refine Sx.ifS ?_
  | with_reducible refine Sx.var ?_
  | with_reducible refine Sx.con ?_
  | with_reducible refine Sx.op ?_
  | with_reducible refine Sx.un ?_
  | with_reducible refine Sx.cb ?_
  | with_reducible refine Sx.cons ?_
  | with_reducible refine Sx.nil ?_
  | with_reducible refine Sx.call ?_
  | with_reducible refine Sx.test ?_
  | with_reducible refine Sx.tb_ ?_
  | with_reducible refine Sx.bl ?_
  | with_reducible refine Sx.and_ ?_
  | with_reducible refine Sx.or_ ?_
  | with_reducible refine Sx.not_ ?_
  | with_reducible refine Sx.andV ?_
  | with_reducible refine Sx.orV ?_
  | with_reducible refine Sx.notV ?_
  | with_reducible refine Sx.ife ?_
  | with_reducible refine Sx.i0 ?_
  | with_reducible refine Sx.iU ?_
  | with_reducible refine Sx.eqI ?_
  | with_reducible refine Sx.eqS ?_
  | with_reducible refine Sx.neI ?_
  | with_reducible refine Sx.neS ?_
  | with_reducible refine Sx.isN' ?_
  | with_reducible refine Sx.chain ?_
  | with_reducible refine Sx.aug ?_
  | with_reducible refine Sx.ipI' ?_
  | with_reducible refine Sx.ifT ?_
  | with_reducible refine Sx.ifF ?_
  | with_reducible refine Sx.ifnF ?_
  | with_reducible refine Sx.ifnT ?_
  | with_reducible refine Sx.tup ?_
  | with_reducible refine Sx.lst ?_
  | with_reducible refine Sx.fld ?_
  | with_reducible refine Sx.sfld ?_
  | with_reducible refine Sx.meth ?_
  | with_reducible refine Sx.app ?_
  | with_reducible refine Sx.gcons ?_
  | with_reducible refine Sx.gnil ?_
  | with_reducible refine Sx.dget ?_
  | with_reducible refine Sx.din ?_
  | with_reducible refine Sx.dnin ?_
  | with_reducible refine Sx.dput ?_
  | with_reducible refine Sx.forS ?_
  | with_reducible refine Sx.ikeys ?_
  | with_reducible refine Sx.ienumT ?_
  | with_reducible refine Sx.scT ?_
  | with_reducible refine Sx.dc2 ?_
  | with_reducible refine Sx.tru ?_
  | with_reducible refine Sx.mv ?_
  | with_reducible refine Sx.cv ?_
  | with_reducible refine Sx.cw ?_
  | with_reducible refine Sx.join ?_
  | with_reducible refine Sx.lc ?_
  | with_reducible refine Sx.istr ?_
  | with_reducible refine Sx.ilist ?_
  | with_reducible refine Sx.itup ?_
  | with_reducible refine Sx.irng1 ?_
  | with_reducible refine Sx.irng2 ?_
  | with_reducible refine Sx.ienum ?_
  | with_reducible refine Sx.izip ?_
  | with_reducible refine Sx.irev ?_
  | with_reducible refine Sx.iitems ?_
  | with_reducible refine Sx.yes ?_
  | with_reducible refine Sx.js_cons ?_
  | with_reducible refine Sx.js_nil ?_
  | with_reducible refine Sx.fmt ?_
  | with_reducible refine Sx.isi_int ?_
  | with_reducible refine Sx.isi_intb ?_
  | with_reducible refine Sx.isi_str ?_)
local macro_rules | `(tactic| walk_at "go") => `(tactic| repeat walk_at "st")
local macro_rules | `(tactic| walk_at "is") => `(tactic| simp only [Option.isSome_some, Option.isSome_none, Bool.not_true, Bool.not_false])
/-! Forms out of the box. -/
section
variable {P : Program} {w : World} {K : PySem.W.Frag} {mg : Str → Option Value} {base : Heap}
theorem LfAt.kp {b c : Addr} {H H' : Hp} {a : Addr} (k : Kp b c H H') (B : BoxAt H b c) : ∀ {f : Nt.Fm}, LfAt H a f → LfAt H' a f
  | .win n, h => k.nl B h fun _ z => (by cases z)
  | .days bs p, h => let ⟨q, h1, h2⟩ := h; ⟨q, k.nl B h1 fun _ z => (by cases z), k.nl B h2 fun _ z => (by cases z)⟩
theorem L2At.kp {b c : Addr} {H H' : Hp} {a : Addr} {wd : Str} {f g : Nt.Fm} (k : Kp b c H H') (B : BoxAt H b c) (h : L2At H a wd f g) : L2At H' a wd f g := let ⟨x, y, h1, h2, h3⟩ := h; ⟨x, y, k.nl B h1 fun _ z => (by cases z), h2.kp k B, h3.kp k B⟩
theorem LrAt.kp {b c : Addr} {H H' : Hp} {a : Addr} (k : Kp b c H H') (B : BoxAt H b c) : ∀ {r : Nt.Rs}, LrAt H a r → LrAt H' a r
  | .pl _, h => LfAt.kp k B h
  | .lat _ _, h => L2At.kp k B h
  | .soo _ _, h => L2At.kp k B h
  | .nxt _ _, h => L2At.kp k B h
theorem asc_snoc {x : Int} : ∀ {bs : List Int} {l : Int}, Nt.Asc l bs → bs.getLastD l + 1 ≤ x → x ≤ 100 → Nt.Asc l (bs ++ [x])
  | [], l, _, h1, h2 => ⟨h1, h2, trivial⟩
  | b :: r, l, h, h1, h2 => by
    rw [List.getLastD_cons] at h1
    exact ⟨h.1, h.2.1, asc_snoc h.2.2 h1 h2⟩
theorem thenS {ta : TE} {f : V → Hp → VK → Prop} {σ : L2.St} {H : Hp} {Q : VK} (k : ta σ H fun x H1 => f x H1 Q) : tThen ta f σ H Q := k
theorem slL1 {H : Hp} {a : Addr} {ns : List Int} {Q : VK} (h : H a = some (.lst (ns.map V.int))) (k : ∀ q, H q = none → Q (.ref q) (upd H q (.lst ((ns.drop (ns.length - 1)).map V.int)))) : rSlL K (.ref a) (some (-1)) none H Q := by
  have e0 : HT.sIx (ns.map V.int).length 0 (some (-1)) = ns.length - 1 := by
    show (if (-1 : Int) < 0 then ((-1 : Int) + ((ns.map V.int).length : Int)).toNat else min (-1 : Int).toNat (ns.map V.int).length) = _
    rw [if_pos (by decide), List.length_map]
    omega
  refine ⟨a, ns.map V.int, rfl, SqL.of h, fun p hp => ?_⟩
  have := k p hp
  unfold cutV
  rw [e0, show HT.sIx (ns.map V.int).length (ns.map V.int).length none = (ns.map V.int).length from rfl, List.take_of_length_le (by rw [List.length_drop]; exact Nat.le_refl _), ← List.map_drop]
  exact this
def sp_lplain : Sp := fun vs H Q _ => ∃ (b c : Addr), vs = [.ref b] ∧ BoxAt H b c ∧ ∀ (p : Addr) (f : Nt.Fm) H', Kp b c H H' → BoxAt H' b c → LfAt H' p f → Nt.FmOk f → Q (.ref p) H'
theorem ok_law_plain_form (T : Tx K mg) : O__law_plain_form P w K mg base 2 sp_lplain := by
  have G__law_take : O__law_take P w K mg base 1 sp_ltake := ok_law_take T
  refine T.F__law_plain_form.ok sc__law_plain_form (fun vs H Q E h => ?_) (fun cdv A outer s H vs Q E hr h => ?_)
  · obtain ⟨b, c, rfl, _⟩ := h
    rfl
  · obtain ⟨b, c, rfl, B, k⟩ := h
    refine ⟨_, PSs.nox ((pss_cons (ps_if (pt_cmpR op_lt (pe_call G__law_take (hr.mono (by decide)) rfl T.g__law_take T.F__law_take.kp T.b__law_take .nil pass0 (pa_cons (pv 0) (pa_cons (pe_int) pa_nil))) (pe_int) (nomark _)) (pss_one (ps_ret (pe_tup (pa_cons (pe_str) (pa_cons (pe_op op_add (pe_int) (pe_call G__law_take (hr.mono (by decide)) rfl T.g__law_take T.F__law_take.kp T.b__law_take .nil pass0 (pa_cons (pv 0) (pa_cons (pe_int) pa_nil)))) pa_nil))))) pss_nil) (pss_cons (ps_set (i := 1) sc__law_plain_form.nd rfl (Or.inl rfl) (pe_lst pa_nil)) (pss_cons (ps_for PassesOwn.never rfl (pi_range1 (by rfl) T.f_range (pa_cons (pe_call G__law_take (hr.mono (by decide)) rfl T.g__law_take T.F__law_take.kp T.b__law_take .nil pass0 (pa_cons (pv 0) (pa_cons (pe_int) pa_nil))) pa_nil)) (pg_name (i := 2) sc__law_plain_form.nd rfl (Or.inl rfl)) (pss_one (ps_expr (show PE _ _ (tBM K _ _ _ _) from pe_bm PySem.F.plainAttrs_list PySem.F.slot_list_append PySem.F.type_list_append mt_append (pv 1) (pa_cons (pe_op op_add (pe_op op_add (pe_callB (Kw.sum K rfl) (by rfl) T.f_sum (by decide +kernel) (pa_cons (pe_slice (Kw.slL K) (pv 1) (po_some (pe_un un_neg (pe_int))) po_none) pa_nil)) (pe_int)) (pe_call G__law_take (hr.mono (by decide)) rfl T.g__law_take T.F__law_take.kp T.b__law_take .nil pass0 (pa_cons (pv 0) (pa_cons (pe_int) pa_nil)))) pa_nil))))) (pss_one (ps_ret (pe_tup (pa_cons (pe_str) (pa_cons (show PE _ _ (tThen _ (kTup K)) from pe_tupleOf rfl T.f_tuple (pv 1)) (pa_cons (pe_op op_add (pe_int) (pe_call G__law_take (hr.mono (by decide)) rfl T.g__law_take T.F__law_take.kp T.b__law_take .nil pass0 (pa_cons (pv 0) (pa_cons (pe_int) pa_nil)))) pa_nil)))))))))), ?_⟩
    walk_at "go"
    refine ⟨b, c, 3, rfl, B, by decide, by decide, fun v H1 k1 B1 v0 v1 => ?_⟩
    walk_at "go"
    refine Sx.ifd (fun c1 => ?_) (fun c1 => ?_)
    · walk_at "go"
      refine ⟨b, c, 9, rfl, B1, by decide, by decide, fun u H2 k2 B2 u0 u1 => ?_⟩
      walk_at "go"
      refine Sx.nw (by show 2 ≤ _; decide) fun p np => ?_
      have s2 := Sx.same_new (o := .tup [V.str "window", V.int (1 + u)]) (Sx.same_rfl H2) np
      exact k p (.win (1 + u)) _ (k1.tr (k2.tr (Kp.of s2))) (B2.same s2) upd_same ⟨by omega, by omega⟩
    · walk_at "go"
      refine Sx.nw (by show 0 ≤ _; decide) fun pb npb => ?_
      have s1 : Same H1 (upd H1 pb (.lst [])) := Sx.same_new (Sx.same_rfl H1) npb
      have hpb : (upd H1 pb (.lst [])) pb = some (.lst (([] : List Int).map V.int)) := upd_same
      obtain ⟨nb1, nb2⟩ := B1.nw npb
      have kpb := k1.none npb nb1 nb2
      generalize upd H1 pb (.lst []) = H2 at s1 hpb
      walk_at "go"
      refine ⟨b, c, 3, rfl, B1.same s1, by decide, by decide, fun u H3 k3 B3 u0 u1 => ?_⟩
      walk_at "go"
      refine ⟨u, rfl, by omega, by omega, VrX.for_J (n := u.toNat) (fun i σ H' => Kp b c H H' ∧ BoxAt H' b c ∧ (∃ bs : List Int, H' pb = some (.lst (bs.map V.int)) ∧ Nt.Asc 0 bs ∧ bs.length = i ∧ Nt.lastB bs ≤ 9 * (i : Int)) ∧ ∃ v2, σ = [some (.ref b), some (.ref pb), v2])
        ⟨k1.tr ((Kp.of s1).tr k3), B3, ⟨[], k3 _ _ nb1 nb2 hpb, trivial, rfl, by decide⟩, _, rfl⟩ (fun _ _ _ => Nat.le_refl _) (fun i _ _ hi _ => hi) ?_ ?_⟩
      · rintro i y σ H4 H5 hi ⟨k4, B4, ⟨bs, hb4, b1, b2, b3⟩, v2, rfl⟩ ⟨rfl, rfl⟩
        walk_at "go"
        refine Sx.appA hb4 ?_
        walk_at "go"
        refine tsl ?_
        walk_at "go"
        refine tpart1 ?_
        refine tno ?_
        refine slL1 hb4 fun q nq => ?_
        walk_at "go"
        refine ⟨q, _, rfl, SqL.of upd_same, ?_⟩
        rw [last_sum]
        have s5 := Sx.same_new (o := .lst ((bs.drop (bs.length - 1)).map V.int)) (Sx.same_rfl _) nq
        walk_at "go"
        refine ⟨b, c, 9, rfl, B4.same s5, by decide, by decide, fun x H6 k6 B6 x0 x1 => ?_⟩
        walk_at "go"
        have hb6 := k6 _ _ nb1 nb2 (s5 _ _ hb4)
        refine Sx.appB hb6 (by rw [List.length_map]; omega) ?_
        walk_at "go"
        have e9 : Nt.lastB (bs ++ [Nt.lastB bs + 1 + x]) = Nt.lastB bs + 1 + x := by
          unfold Nt.lastB
          simp [List.getLastD_eq_getLast?]
        refine ⟨fun z o z1 z2 e => ?_, ?_, ⟨bs ++ [Nt.lastB bs + 1 + x], by rw [upd_same, List.map_append]; rfl, asc_snoc b1 (by show Nt.lastB bs + 1 ≤ _; omega) (by omega), by rw [List.length_append, b2]; rfl, by rw [e9]; omega⟩, _, rfl⟩
        · rw [upd_ne (fun z0 => ?_)]
          · exact (k4.tr ((Kp.of s5).tr k6)) _ _ z1 z2 e
          · rw [z0, kpb] at e
            cases e
        · obtain ⟨n0, cs, a, t, sd, h1, h2, h3⟩ := B6
          exact ⟨n0, cs, a, t, sd, by rw [upd_ne nb1.symm]; exact h1, by rw [upd_ne nb2.symm]; exact h2, h3⟩
      · rintro σ H4 ⟨k4, B4, ⟨bs, hb4, b1, b2, b3⟩, v2, rfl⟩
        walk_at "go"
        refine thenS ?_
        walk_at "go"
        refine .inl ⟨pb, _, rfl, SqL.of hb4, fun q nq => ?_⟩
        have s5 := Sx.same_new (o := .tup (bs.map V.int)) (Sx.same_rfl H4) nq
        have hq5 : (upd H4 q (.tup (bs.map V.int))) q = some (.tup (bs.map V.int)) := upd_same
        generalize upd H4 q (.tup (bs.map V.int)) = H5 at s5 hq5
        walk_at "go"
        refine ⟨b, c, 9, rfl, B4.same s5, by decide, by decide, fun x H6 k6 B6 x0 x1 => ?_⟩
        walk_at "go"
        refine Sx.nw (by show 3 ≤ _; decide) fun p np => ?_
        have s7 := Sx.same_new (o := .tup [V.str "days", V.ref q, V.int (1 + x)]) (Sx.same_rfl H6) np
        have hq6 := k6.nl (B4.same s5) hq5 fun _ z => (by cases z)
        exact k p (.days bs (1 + x)) _ (k4.tr ((Kp.of s5).tr (k6.tr (Kp.of s7)))) (B6.same s7) ⟨q, upd_same, s7 _ _ hq6⟩ ⟨b1, by omega, by omega, by omega⟩
def sp_lform : Sp := fun vs H Q _ => ∃ (b c : Addr), vs = [.ref b] ∧ BoxAt H b c ∧ ∀ (p : Addr) (r : Nt.Rs) H', Kp b c H H' → BoxAt H' b c → LrAt H' p r → Nt.RsOk r → Q (.ref p) H'
theorem ok_law_form (T : Tx K mg) : O__law_form P w K mg base 3 sp_lform := by
  have G__law_take : O__law_take P w K mg base 1 sp_ltake := ok_law_take T
  have G__law_plain_form : O__law_plain_form P w K mg base 2 sp_lplain := ok_law_plain_form T
  refine T.F__law_form.ok sc__law_form (fun vs H Q E h => ?_) (fun cdv A outer s H vs Q E hr h => ?_)
  · obtain ⟨b, c, rfl, _⟩ := h
    rfl
  · obtain ⟨b, c, rfl, B, k⟩ := h
    refine ⟨_, PSs.nox ((pss_cons (ps_set (i := 1) sc__law_form.nd rfl (Or.inl rfl) (pe_ix (Kw.ixT K) (pe_tup (pa_cons (pe_str) (pa_cons (pe_str) (pa_cons (pe_str) (pa_cons (pe_str) (pa_cons (pe_str) (pa_cons (pe_str) pa_nil))))))) (pe_call G__law_take (hr.mono (by decide)) rfl T.g__law_take T.F__law_take.kp T.b__law_take .nil pass0 (pa_cons (pv 0) (pa_cons (pe_int) pa_nil))) (fun _ _ => rfl))) (pss_cons (ps_set (i := 2) sc__law_form.nd rfl (Or.inl rfl) (pe_call G__law_plain_form (hr.mono (by decide)) rfl T.g__law_plain_form T.F__law_plain_form.kp T.b__law_plain_form .nil pass0 (pa_cons (pv 0) pa_nil))) (pss_cons (ps_if (pt_cmpR op_eq (pv 1) (pe_str) (nomark _)) (pss_one (ps_ret (pv 2))) pss_nil) (pss_one (ps_ret (pe_tup (pa_cons (pv 1) (pa_cons (pv 2) (pa_cons (pe_call G__law_plain_form (hr.mono (by decide)) rfl T.g__law_plain_form T.F__law_plain_form.kp T.b__law_plain_form .nil pass0 (pa_cons (pv 0) pa_nil)) pa_nil)))))))))), ?_⟩
    walk_at "go"
    refine Sx.nw (by show 6 ≤ _; decide) fun tp ntp => ?_
    have s1 := Sx.same_new (o := .tup [V.str "plain", V.str "plain", V.str "plain", V.str "later", V.str "sooner", V.str "next"]) (Sx.same_rfl H) ntp
    have htp : (upd H tp (.tup [V.str "plain", V.str "plain", V.str "plain", V.str "later", V.str "sooner", V.str "next"])) tp = some (.tup [V.str "plain", V.str "plain", V.str "plain", V.str "later", V.str "sooner", V.str "next"]) := upd_same
    generalize upd H tp (.tup [V.str "plain", V.str "plain", V.str "plain", V.str "later", V.str "sooner", V.str "next"]) = H1 at s1 htp
    walk_at "go"
    refine ⟨b, c, 6, rfl, B.same s1, by decide, by decide, fun v H2 k2 B2 v0 v1 => ?_⟩
    have ht2 := k2.nl (B.same s1) htp fun _ z => (by cases z)
    obtain ⟨wd, e1, e2⟩ : ∃ wd : Str, atI [V.str "plain", V.str "plain", V.str "plain", V.str "later", V.str "sooner", V.str "next"] v = some (V.str wd) ∧ (wd = "plain" ∨ wd = "later" ∨ wd = "sooner" ∨ wd = "next") := by
      have : v = 0 ∨ v = 1 ∨ v = 2 ∨ v = 3 ∨ v = 4 ∨ v = 5 := by omega
      rcases this with rfl | rfl | rfl | rfl | rfl | rfl
      · exact ⟨_, rfl, .inl rfl⟩
      · exact ⟨_, rfl, .inl rfl⟩
      · exact ⟨_, rfl, .inl rfl⟩
      · exact ⟨_, rfl, .inr (.inl rfl)⟩
      · exact ⟨_, rfl, .inr (.inr (.inl rfl))⟩
      · exact ⟨_, rfl, .inr (.inr (.inr rfl))⟩
    refine Sx.ixT (SqT.of ht2) e1 ?_
    walk_at "go"
    refine ⟨b, c, rfl, B2, fun p1 f H3 k3 B3 h3 ok3 => ?_⟩
    walk_at "go"
    have k03 := (Kp.of (b := b) (c := c) s1).tr (k2.tr k3)
    by_cases hw : wd = "plain"
    · refine Sx.dT hw ?_
      walk_at "go"
      exact k p1 (.pl f) H3 k03 B3 h3 ok3
    · refine Sx.dF hw ?_
      walk_at "go"
      refine ⟨b, c, rfl, B3, fun p2 g H4 k4 B4 h4 ok4 => ?_⟩
      walk_at "go"
      refine Sx.nw (by show 3 ≤ _; decide) fun p np => ?_
      have s5 := Sx.same_new (o := .tup [V.str wd, V.ref p1, V.ref p2]) (Sx.same_rfl H4) np
      have at5 : L2At (upd H4 p (.tup [V.str wd, V.ref p1, V.ref p2])) p wd f g := ⟨p1, p2, upd_same, (h3.kp k4 B3).same s5, h4.same s5⟩
      have k05 := k03.tr (k4.tr (Kp.of s5))
      rcases e2 with rfl | rfl | rfl | rfl
      · exact absurd rfl hw
      · exact k p (.lat f g) _ k05 (B4.same s5) at5 ⟨ok3, ok4⟩
      · exact k p (.soo f g) _ k05 (B4.same s5) at5 ⟨ok3, ok4⟩
      · exact k p (.nxt f g) _ k05 (B4.same s5) at5 ⟨ok3, ok4⟩
end
end Wk

set_option Elab.async false
set_option linter.all false
set_option maxRecDepth 100000
set_option maxHeartbeats 2000000
namespace Wk
open PySem PySem.Spec PyProof.Rows L2 NdefX SuX Hk
local macro_rules | `(tactic| walk_at "st") => `(tactic| first
  | with_reducible refine Sx.ret ?_
  | with_reducible refine Sx.retN ?_
  | with_reducible refine Sx.seq ?_
  | with_reducible refine Sx.next ?_
  | with_reducible refine Sx.brk ?_
  | with_reducible refine Sx.cont ?_
  | with_reducible refine Sx.drop ?_
  | with_reducible refine Sx.asg ?_
  | with_reducible refine Sx.gname ?_
  | with_reducible refine Sx.ifS ?_
  | with_reducible refine Sx.var ?_
  | with_reducible refine Sx.con ?_
  | with_reducible refine Sx.op ?_
  | with_reducible refine Sx.un ?_
  | with_reducible refine Sx.cb ?_
  | with_reducible refine Sx.cons ?_
  | with_reducible refine Sx.nil ?_
  | with_reducible refine Sx.call ?_
  | with_reducible refine Sx.test ?_
  | with_reducible refine Sx.tb_ ?_
  | with_reducible refine Sx.bl ?_
  | with_reducible refine Sx.and_ ?_
  | with_reducible refine Sx.or_ ?_
  | with_reducible refine Sx.not_ ?_
  | with_reducible refine Sx.andV ?_
  | with_reducible refine Sx.orV ?_
  | with_reducible refine Sx.notV ?_
  | with_reducible refine Sx.ife ?_
  | with_reducible refine Sx.i0 ?_
  | with_reducible refine Sx.iU ?_
  | with_reducible refine Sx.eqI ?_
  | with_reducible refine Sx.eqS ?_
  | with_reducible refine Sx.neI ?_
  | with_reducible refine Sx.neS ?_
  | with_reducible refine Sx.isN' ?_
  | with_reducible refine Sx.chain ?_
  | with_reducible refine Sx.aug ?_
  | with_reducible refine Sx.ipI' ?_
  | with_reducible refine Sx.ifT ?_
  | with_reducible refine Sx.ifF ?_
  | with_reducible refine Sx.ifnF ?_
  | with_reducible refine Sx.ifnT ?_
  | with_reducible refine Sx.tup ?_
  | with_reducible refine Sx.lst ?_
  | with_reducible refine Sx.fld ?_
  | with_reducible refine Sx.sfld ?_
  | with_reducible refine Sx.meth ?_
  | with_reducible refine Sx.app ?_
  | with_reducible refine Sx.gcons ?_
  | with_reducible refine Sx.gnil ?_
  | with_reducible refine Sx.dget ?_
  | with_reducible refine Sx.din ?_
  | with_reducible refine Sx.dnin ?_
  | with_reducible refine Sx.dput ?_
  | with_reducible refine Sx.forS ?_
  | with_reducible refine Sx.ikeys ?_
  | with_reducible refine Sx.ienumT ?_
  | with_reducible refine Sx.scT ?_
  | with_reducible refine Sx.dc2 ?_
  | with_reducible refine Sx.tru ?_
  | with_reducible refine Sx.mv ?_
  | with_reducible refine Sx.cv ?_
  | with_reducible refine Sx.cw ?_
  | with_reducible refine Sx.join ?_
  | with_reducible refine Sx.lc ?_
  | with_reducible refine Sx.istr ?_
  | with_reducible refine Sx.ilist ?_
  | with_reducible refine Sx.itup ?_
  | with_reducible refine Sx.irng1 ?_
  | with_reducible refine Sx.irng2 ?_
  | with_reducible refine Sx.ienum ?_
  | with_reducible refine Sx.izip ?_
  | with_reducible refine Sx.irev ?_
  | with_reducible refine Sx.iitems ?_
  | with_reducible refine Sx.yes ?_
  | with_reducible refine Sx.js_cons ?_
  | with_reducible refine Sx.js_nil ?_
  | with_reducible refine Sx.fmt ?_
  | with_reducible refine Sx.isi_int ?_
  | with_reducible refine Sx.isi_intb ?_
  | with_reducible refine Sx.isi_str ?_)
local macro_rules | `(tactic| walk_at "go") => `(tactic| repeat walk_at "st")
local macro_rules | `(tactic| walk_at "is") => `(tactic| simp only [Option.isSome_some, Option.isSome_none, Bool.not_true, Bool.not_false])
/-! Rests out of forms. -/
section
variable {P : Program} {w : World} {K : PySem.W.Frag} {mg : Str → Option Value} {base : Heap}
theorem same_make {H H' : Hp} {x dx C : Addr} {fs : List (Str × V)} (nx : H x = none) (nd : H dx = none) (st : Stay x (upd (upd H dx (.own x)) x (.ins C dx fs)) H') : Same H H' := fun b o e => by
  have h1 : b ≠ x := fun z => by rw [z, nx] at e; cases e
  have h2 : b ≠ dx := fun z => by rw [z, nd] at e; cases e
  refine st b o h1 ?_
  rw [upd_ne h1, upd_ne h2]
  exact e
theorem same_mk0 {H : Hp} {x dx : Addr} {o o' : HO} (nx : H x = none) (nd : H dx = none) : Same H (upd (upd H dx o) x o') := fun b ob e => by
  rw [upd_ne (fun z => by rw [z, nx] at e; cases e), upd_ne (fun z => by rw [z, nd] at e; cases e)]
  exact e
def sp_lmk1 (K : PySem.W.Frag) (bad : Addr → Prop) : Sp := fun vs H Q _ => ∃ (a : Addr) (f : Nt.Fm), vs = [.ref a] ∧ LfAt H a f ∧ Nt.FmOk f ∧ (∀ x, bad x → H x ≠ none) ∧ ∀ p H', Same H H' → FmAt K bad H' p f → Q (.ref p) H'
theorem ok_law_made0 (T : Tx K mg) : O__law_made P w K mg base 1 spNo := T.F__law_made.ok sc__law_made (fun vs H Q E h => h.elim) (fun cdv A outer s H vs Q E hr h => h.elim)
theorem ok_law_made1 (T : Tx K mg) (hP : PF P) (bad : Addr → Prop) : O__law_made P w K mg base 5 (sp_lmk1 K bad) := by
  have G__law_made : O__law_made P w K mg base 1 spNo := ok_law_made0 T
  have G_Window := ok_Window_init (P := P) (w := w) (base := base) T hP
  have G_Days := ok_Days_init (P := P) (w := w) (base := base) T hP
  have G_Later := ok_Later_init (P := P) (w := w) (base := base) T hP
  have G_Sooner := ok_Sooner_init (P := P) (w := w) (base := base) T hP
  have G_Next := ok_Next_init (P := P) (w := w) (base := base) T hP
  refine T.F__law_made.ok sc__law_made (fun vs H Q E h => ?_) (fun cdv A outer s H vs Q E hr h => ?_)
  · obtain ⟨a, f, rfl, _⟩ := h
    rfl
  · obtain ⟨a, f, rfl, h1, ok, hb, k⟩ := h
    refine ⟨_, PSs.nox ((pss_cons (ps_if (pt_cmpR op_eq (pe_ix (Kw.ixT K) (pv 0) (pe_int) (fun _ _ => rfl)) (pe_str) (nomark _)) (pss_one (ps_ret (pe_make T.k_Window G_Window (hr.mono (by decide)) rfl T.g_Window (bS_Window T) .nil pass0 (pa_cons (pe_ix (Kw.ixT K) (pv 0) (pe_int) (fun _ _ => rfl)) pa_nil)))) pss_nil) (pss_cons (ps_if (pt_cmpR op_eq (pe_ix (Kw.ixT K) (pv 0) (pe_int) (fun _ _ => rfl)) (pe_str) (nomark _)) (pss_one (ps_ret (pe_make T.k_Days G_Days (hr.mono (by decide)) rfl T.g_Days (bS_Days T) .nil pass0 (pa_cons (pe_callTy (Kw.lst K) (by rfl) T.f_list (by decide +kernel) (pa_cons (pe_ix (Kw.ixT K) (pv 0) (pe_int) (fun _ _ => rfl)) pa_nil)) (pa_cons (pe_ix (Kw.ixT K) (pv 0) (pe_int) (fun _ _ => rfl)) pa_nil))))) pss_nil) (pss_cons (ps_if (pt_cmpR op_eq (pe_ix (Kw.ixT K) (pv 0) (pe_int) (fun _ _ => rfl)) (pe_str) (nomark _)) (pss_one (ps_ret (pe_make T.k_Later G_Later (hr.mono (by decide)) rfl T.g_Later (bS_Later T) .nil pass0 (pa_cons (pe_call G__law_made (hr.mono (by decide)) rfl T.g__law_made T.F__law_made.kp T.b__law_made .nil pass0 (pa_cons (pe_ix (Kw.ixT K) (pv 0) (pe_int) (fun _ _ => rfl)) pa_nil)) (pa_cons (pe_call G__law_made (hr.mono (by decide)) rfl T.g__law_made T.F__law_made.kp T.b__law_made .nil pass0 (pa_cons (pe_ix (Kw.ixT K) (pv 0) (pe_int) (fun _ _ => rfl)) pa_nil)) pa_nil))))) pss_nil) (pss_cons (ps_if (pt_cmpR op_eq (pe_ix (Kw.ixT K) (pv 0) (pe_int) (fun _ _ => rfl)) (pe_str) (nomark _)) (pss_one (ps_ret (pe_make T.k_Sooner G_Sooner (hr.mono (by decide)) rfl T.g_Sooner (bS_Sooner T) .nil pass0 (pa_cons (pe_call G__law_made (hr.mono (by decide)) rfl T.g__law_made T.F__law_made.kp T.b__law_made .nil pass0 (pa_cons (pe_ix (Kw.ixT K) (pv 0) (pe_int) (fun _ _ => rfl)) pa_nil)) (pa_cons (pe_call G__law_made (hr.mono (by decide)) rfl T.g__law_made T.F__law_made.kp T.b__law_made .nil pass0 (pa_cons (pe_ix (Kw.ixT K) (pv 0) (pe_int) (fun _ _ => rfl)) pa_nil)) pa_nil))))) pss_nil) (pss_one (ps_ret (pe_make T.k_Next G_Next (hr.mono (by decide)) rfl T.g_Next (bS_Next T) .nil pass0 (pa_cons (pe_call G__law_made (hr.mono (by decide)) rfl T.g__law_made T.F__law_made.kp T.b__law_made .nil pass0 (pa_cons (pe_ix (Kw.ixT K) (pv 0) (pe_int) (fun _ _ => rfl)) pa_nil)) (pa_cons (pe_call G__law_made (hr.mono (by decide)) rfl T.g__law_made T.F__law_made.kp T.b__law_made .nil pass0 (pa_cons (pe_ix (Kw.ixT K) (pv 0) (pe_int) (fun _ _ => rfl)) pa_nil)) pa_nil)))))))))), ?_⟩
    cases f with
    | win n =>
      walk_at "go"
      refine Sx.ixT (SqT.of h1) rfl ?_
      walk_at "go"
      refine Sx.dT rfl ?_
      walk_at "go"
      refine mkS ?_
      walk_at "go"
      refine Sx.ixT (SqT.of h1) rfl ?_
      walk_at "go"
      intro x dx nx ndx hne
      have h9 := ok.2
      refine ⟨x, dx, n, rfl, ok.1, by omega, upd_same, fun tx ht => ⟨rfl, ?_⟩⟩
      rw [upd_upd]
      exact k x _ (same_mk0 nx ndx) ⟨dx, tx, ht, upd_same⟩
    | days bs p =>
      obtain ⟨q, h1, h2⟩ := h1
      walk_at "go"
      refine Sx.ixT (SqT.of h1) rfl ?_
      walk_at "go"
      refine Sx.dF (by decide) ?_
      walk_at "go"
      refine Sx.ixT (SqT.of h1) rfl ?_
      walk_at "go"
      refine Sx.dT rfl ?_
      walk_at "go"
      refine mkS ?_
      walk_at "go"
      refine Sx.ixT (SqT.of h1) rfl ?_
      walk_at "go"
      refine ⟨q, _, rfl, .inr (SqT.of h2), fun l nl => ?_⟩
      have s1 := Sx.same_new (o := .lst (bs.map V.int)) (Sx.same_rfl H) nl
      have hl1 : (upd H l (.lst (bs.map V.int))) l = some (.lst (bs.map V.int)) := upd_same
      generalize upd H l (.lst (bs.map V.int)) = H1 at s1 hl1
      walk_at "go"
      refine Sx.ixT (SqT.of (s1 _ _ h1)) rfl ?_
      walk_at "go"
      intro x dx nx ndx hne
      refine ⟨x, dx, l, bs, p, rfl, upd_same, same_mk0 nx ndx _ _ hl1, ok, fun tx c H2 ht st nc hc hx => ⟨rfl, ?_⟩⟩
      have s2 := Sx.same_tr s1 (same_make nx ndx st)
      refine k x _ s2 ⟨dx, tx, c, ht, hx, hc, fun z => hb c z ?_⟩
      exact Sx.new_none s1 (Sx.new_none (same_mk0 nx ndx) nc)
theorem FmAt.obs (T : Tx K mg) {bad : Addr → Prop} {H : Hp} {a : Addr} : ∀ {f : Nt.Fm}, FmAt K bad H a f → Nt.FmOk f → ∃ tx pe be, ∀ H', Same H H' → PlOb K H' a tx pe be
  | .win n, ⟨dx, tx, h0, h1⟩, ok => by
    refine ⟨tx, 1, 0, fun H' s => ?_⟩
    have h1 := s _ _ h1
    refine ⟨h0, by decide, by decide, ⟨_, dx, _, h1, T.c_Window, T.n_Window__text, by kernel_rfl⟩, ⟨_, dx, _, h1, T.c_Window, T.n_Window__forms, by kernel_rfl⟩, ⟨_, dx, _, h1, T.c_Window, T.n_Window__period, by kernel_rfl⟩, ⟨_, dx, _, h1, T.c_Window, T.n_Window__bend, by kernel_rfl⟩,
      ⟨_, dx, _, h1, by kernel_rfl, T.c_Window, ?_⟩, ⟨_, dx, _, h1, by kernel_rfl, T.c_Window, ?_⟩, ⟨_, dx, _, h1, by kernel_rfl, T.c_Window, ?_⟩, ⟨_, dx, _, h1, by kernel_rfl, T.c_Window, ?_⟩, ⟨_, T.isa_Window h1⟩⟩
    · rw [← T.same_Window_written]; exact T.m_Window_written
    · rw [← T.same_Window_forms]; exact T.m_Window_forms
    · rw [← T.same_Window_period]; exact T.m_Window_period
    · rw [← T.same_Window_bend]; exact T.m_Window_bend
  | .days bs p, ⟨dx, tx, b, h0, h1, _, _⟩, ⟨_, _, o3, o4⟩ => by
    refine ⟨tx, p, Nt.lastB bs, fun H' s => ?_⟩
    have h1 := s _ _ h1
    refine ⟨h0, o3, o4, ⟨_, dx, _, h1, T.c_Days, T.n_Days__text, by kernel_rfl⟩, ⟨_, dx, _, h1, T.c_Days, T.n_Days__forms, by kernel_rfl⟩, ⟨_, dx, _, h1, T.c_Days, T.n_Days__period, by kernel_rfl⟩, ⟨_, dx, _, h1, T.c_Days, T.n_Days__bend, by kernel_rfl⟩,
      ⟨_, dx, _, h1, by kernel_rfl, T.c_Days, ?_⟩, ⟨_, dx, _, h1, by kernel_rfl, T.c_Days, ?_⟩, ⟨_, dx, _, h1, by kernel_rfl, T.c_Days, ?_⟩, ⟨_, dx, _, h1, by kernel_rfl, T.c_Days, ?_⟩, ⟨_, T.isa_Days h1⟩⟩
    · rw [← T.same_Days_written]; exact T.m_Days_written
    · rw [← T.same_Days_forms]; exact T.m_Days_forms
    · rw [← T.same_Days_period]; exact T.m_Days_period
    · rw [← T.same_Days_bend]; exact T.m_Days_bend
def sp_lmk (K : PySem.W.Frag) (bad : Addr → Prop) : Sp := fun vs H Q _ => ∃ (a : Addr) (r : Nt.Rs), vs = [.ref a] ∧ LrAt H a r ∧ Nt.RsOk r ∧ (∀ x, bad x → H x ≠ none) ∧ ∀ p H', Same H H' → RsAt K bad H' p r → Q (.ref p) H'
theorem ok_law_made (T : Tx K mg) (hP : PF P) (bad : Addr → Prop) : O__law_made P w K mg base 6 (sp_lmk K bad) := by
  have G1 : O__law_made P w K mg base 5 (sp_lmk1 K bad) := ok_law_made1 T hP bad
  have two : O__law_made P w K mg base 6 (fun vs H Q E => ∃ (a : Addr) (r : Nt.Rs), vs = [.ref a] ∧ LrAt H a r ∧ Nt.RsOk r ∧ (∀ x, bad x → H x ≠ none) ∧ (∀ f, r ≠ .pl f) ∧ ∀ p H', Same H H' → RsAt K bad H' p r → Q (.ref p) H') := by
    have G__law_made := G1
    have G_Window := ok_Window_init (P := P) (w := w) (base := base) T hP
    have G_Days := ok_Days_init (P := P) (w := w) (base := base) T hP
    have G_Later := ok_Later_init (P := P) (w := w) (base := base) T hP
    have G_Sooner := ok_Sooner_init (P := P) (w := w) (base := base) T hP
    have G_Next := ok_Next_init (P := P) (w := w) (base := base) T hP
    refine T.F__law_made.ok sc__law_made (fun vs H Q E h => ?_) (fun cdv A outer s H vs Q E hr h => ?_)
    · obtain ⟨a, r, rfl, _⟩ := h
      rfl
    · obtain ⟨a, r, rfl, h1, ok, hb, np, k⟩ := h
      refine ⟨_, PSs.nox ((pss_cons (ps_if (pt_cmpR op_eq (pe_ix (Kw.ixT K) (pv 0) (pe_int) (fun _ _ => rfl)) (pe_str) (nomark _)) (pss_one (ps_ret (pe_make T.k_Window G_Window (hr.mono (by decide)) rfl T.g_Window (bS_Window T) .nil pass0 (pa_cons (pe_ix (Kw.ixT K) (pv 0) (pe_int) (fun _ _ => rfl)) pa_nil)))) pss_nil) (pss_cons (ps_if (pt_cmpR op_eq (pe_ix (Kw.ixT K) (pv 0) (pe_int) (fun _ _ => rfl)) (pe_str) (nomark _)) (pss_one (ps_ret (pe_make T.k_Days G_Days (hr.mono (by decide)) rfl T.g_Days (bS_Days T) .nil pass0 (pa_cons (pe_callTy (Kw.lst K) (by rfl) T.f_list (by decide +kernel) (pa_cons (pe_ix (Kw.ixT K) (pv 0) (pe_int) (fun _ _ => rfl)) pa_nil)) (pa_cons (pe_ix (Kw.ixT K) (pv 0) (pe_int) (fun _ _ => rfl)) pa_nil))))) pss_nil) (pss_cons (ps_if (pt_cmpR op_eq (pe_ix (Kw.ixT K) (pv 0) (pe_int) (fun _ _ => rfl)) (pe_str) (nomark _)) (pss_one (ps_ret (pe_make T.k_Later G_Later (hr.mono (by decide)) rfl T.g_Later (bS_Later T) .nil pass0 (pa_cons (pe_call G__law_made (hr.mono (by decide)) rfl T.g__law_made T.F__law_made.kp T.b__law_made .nil pass0 (pa_cons (pe_ix (Kw.ixT K) (pv 0) (pe_int) (fun _ _ => rfl)) pa_nil)) (pa_cons (pe_call G__law_made (hr.mono (by decide)) rfl T.g__law_made T.F__law_made.kp T.b__law_made .nil pass0 (pa_cons (pe_ix (Kw.ixT K) (pv 0) (pe_int) (fun _ _ => rfl)) pa_nil)) pa_nil))))) pss_nil) (pss_cons (ps_if (pt_cmpR op_eq (pe_ix (Kw.ixT K) (pv 0) (pe_int) (fun _ _ => rfl)) (pe_str) (nomark _)) (pss_one (ps_ret (pe_make T.k_Sooner G_Sooner (hr.mono (by decide)) rfl T.g_Sooner (bS_Sooner T) .nil pass0 (pa_cons (pe_call G__law_made (hr.mono (by decide)) rfl T.g__law_made T.F__law_made.kp T.b__law_made .nil pass0 (pa_cons (pe_ix (Kw.ixT K) (pv 0) (pe_int) (fun _ _ => rfl)) pa_nil)) (pa_cons (pe_call G__law_made (hr.mono (by decide)) rfl T.g__law_made T.F__law_made.kp T.b__law_made .nil pass0 (pa_cons (pe_ix (Kw.ixT K) (pv 0) (pe_int) (fun _ _ => rfl)) pa_nil)) pa_nil))))) pss_nil) (pss_one (ps_ret (pe_make T.k_Next G_Next (hr.mono (by decide)) rfl T.g_Next (bS_Next T) .nil pass0 (pa_cons (pe_call G__law_made (hr.mono (by decide)) rfl T.g__law_made T.F__law_made.kp T.b__law_made .nil pass0 (pa_cons (pe_ix (Kw.ixT K) (pv 0) (pe_int) (fun _ _ => rfl)) pa_nil)) (pa_cons (pe_call G__law_made (hr.mono (by decide)) rfl T.g__law_made T.F__law_made.kp T.b__law_made .nil pass0 (pa_cons (pe_ix (Kw.ixT K) (pv 0) (pe_int) (fun _ _ => rfl)) pa_nil)) pa_nil)))))))))), ?_⟩
      cases r with
      | pl f => exact absurd rfl (np f)
      | lat f g =>
        obtain ⟨x, y, h1, h2, h3⟩ := h1
        obtain ⟨o1, o2⟩ := ok
        walk_at "go"
        refine Sx.ixT (SqT.of h1) rfl ?_
        walk_at "go"
        refine Sx.dF (by decide) ?_
        walk_at "go"
        refine Sx.ixT (SqT.of h1) rfl ?_
        walk_at "go"
        refine Sx.dF (by decide) ?_
        walk_at "go"
        refine Sx.ixT (SqT.of h1) rfl ?_
        walk_at "go"
        refine Sx.dT rfl ?_
        walk_at "go"
        refine mkS ?_
        walk_at "go"
        refine Sx.ixT (SqT.of h1) rfl ?_
        walk_at "go"
        refine ⟨x, f, rfl, h2, o1, hb, fun pa H1 s1 ha => ?_⟩
        walk_at "go"
        have g1 := s1 _ _ h1
        refine Sx.ixT (SqT.of g1) rfl ?_
        walk_at "go"
        refine ⟨y, g, rfl, h3.same s1, o2, fun z hz e => hb z hz (Sx.new_none s1 e), fun pb H2 s2 hb2 => ?_⟩
        walk_at "go"
        intro x2 dx nx ndx hne
        have s3 : Same H2 _ := same_mk0 (o := .own x2) (o' := .ins (gC K "Later") dx []) nx ndx
        obtain ⟨tx1, p1, b1, oa⟩ := ((ha.same s2).same s3).obs T o1
        obtain ⟨tx2, p2, b2, ob⟩ := (hb2.same s3).obs T o2
        refine ⟨x2, dx, pa, pb, tx1, tx2, p1, b1, p2, b2, rfl, upd_same, oa, ob, fun tx pe be H3 st hx => ⟨rfl, ?_⟩⟩
        have s23 := same_make nx ndx st
        exact k x2 H3 (Sx.same_tr s1 (Sx.same_tr s2 s23)) ⟨dx, tx, pe, be, pa, pb, hx, (ha.same s2).same s23, hb2.same s23⟩
      | soo f g =>
        obtain ⟨x, y, h1, h2, h3⟩ := h1
        obtain ⟨o1, o2⟩ := ok
        walk_at "go"
        refine Sx.ixT (SqT.of h1) rfl ?_
        walk_at "go"
        refine Sx.dF (by decide) ?_
        walk_at "go"
        refine Sx.ixT (SqT.of h1) rfl ?_
        walk_at "go"
        refine Sx.dF (by decide) ?_
        walk_at "go"
        refine Sx.ixT (SqT.of h1) rfl ?_
        walk_at "go"
        refine Sx.dF (by decide) ?_
        walk_at "go"
        refine Sx.ixT (SqT.of h1) rfl ?_
        walk_at "go"
        refine Sx.dT rfl ?_
        walk_at "go"
        refine mkS ?_
        walk_at "go"
        refine Sx.ixT (SqT.of h1) rfl ?_
        walk_at "go"
        refine ⟨x, f, rfl, h2, o1, hb, fun pa H1 s1 ha => ?_⟩
        walk_at "go"
        have g1 := s1 _ _ h1
        refine Sx.ixT (SqT.of g1) rfl ?_
        walk_at "go"
        refine ⟨y, g, rfl, h3.same s1, o2, fun z hz e => hb z hz (Sx.new_none s1 e), fun pb H2 s2 hb2 => ?_⟩
        walk_at "go"
        intro x2 dx nx ndx hne
        have s3 : Same H2 _ := same_mk0 (o := .own x2) (o' := .ins (gC K "Sooner") dx []) nx ndx
        obtain ⟨tx1, p1, b1, oa⟩ := ((ha.same s2).same s3).obs T o1
        obtain ⟨tx2, p2, b2, ob⟩ := (hb2.same s3).obs T o2
        refine ⟨x2, dx, pa, pb, tx1, tx2, p1, b1, p2, b2, rfl, upd_same, oa, ob, fun tx pe be H3 st hx => ⟨rfl, ?_⟩⟩
        have s23 := same_make nx ndx st
        exact k x2 H3 (Sx.same_tr s1 (Sx.same_tr s2 s23)) ⟨dx, tx, pe, be, pa, pb, hx, (ha.same s2).same s23, hb2.same s23⟩
      | nxt f g =>
        obtain ⟨x, y, h1, h2, h3⟩ := h1
        obtain ⟨o1, o2⟩ := ok
        walk_at "go"
        refine Sx.ixT (SqT.of h1) rfl ?_
        walk_at "go"
        refine Sx.dF (by decide) ?_
        walk_at "go"
        refine Sx.ixT (SqT.of h1) rfl ?_
        walk_at "go"
        refine Sx.dF (by decide) ?_
        walk_at "go"
        refine Sx.ixT (SqT.of h1) rfl ?_
        walk_at "go"
        refine Sx.dF (by decide) ?_
        walk_at "go"
        refine Sx.ixT (SqT.of h1) rfl ?_
        walk_at "go"
        refine Sx.dF (by decide) ?_
        walk_at "go"
        refine mkS ?_
        walk_at "go"
        refine Sx.ixT (SqT.of h1) rfl ?_
        walk_at "go"
        refine ⟨x, f, rfl, h2, o1, hb, fun pa H1 s1 ha => ?_⟩
        walk_at "go"
        have g1 := s1 _ _ h1
        refine Sx.ixT (SqT.of g1) rfl ?_
        walk_at "go"
        refine ⟨y, g, rfl, h3.same s1, o2, fun z hz e => hb z hz (Sx.new_none s1 e), fun pb H2 s2 hb2 => ?_⟩
        walk_at "go"
        intro x2 dx nx ndx hne
        have s3 : Same H2 _ := same_mk0 (o := .own x2) (o' := .ins (gC K "Next") dx []) nx ndx
        obtain ⟨tx1, p1, b1, oa⟩ := ((ha.same s2).same s3).obs T o1
        obtain ⟨tx2, p2, b2, ob⟩ := (hb2.same s3).obs T o2
        refine ⟨x2, dx, pa, pb, tx1, tx2, p1, b1, p2, b2, rfl, upd_same, oa, ob, fun tx pe be H3 st hx => ⟨rfl, ?_⟩⟩
        have s23 := same_make nx ndx st
        exact k x2 H3 (Sx.same_tr s1 (Sx.same_tr s2 s23)) ⟨dx, tx, pe, be, pa, pb, hx, (ha.same s2).same s23, hb2.same s23⟩
  refine fn_either (G1.mono (by decide)) two fun vs H Q E h => ?_
  obtain ⟨a, r, e, h1, ok, hb, k⟩ := h
  cases r with
  | pl f => exact .inl ⟨a, f, e, h1, ok, hb, k⟩
  | lat f g => exact .inr ⟨a, _, e, h1, ok, hb, fun _ z => (by cases z), k⟩
  | soo f g => exact .inr ⟨a, _, e, h1, ok, hb, fun _ z => (by cases z), k⟩
  | nxt f g => exact .inr ⟨a, _, e, h1, ok, hb, fun _ z => (by cases z), k⟩
end
end Wk

set_option Elab.async false
set_option linter.all false
set_option maxRecDepth 100000
set_option maxHeartbeats 2000000
namespace Wk
open PySem PySem.Spec PyProof.Rows L2 NdefX SuX Hk
local macro_rules | `(tactic| walk_at "st") => `(tactic| first
  | with_reducible refine Sx.ret ?_
  | with_reducible refine Sx.retN ?_
  | with_reducible refine Sx.seq ?_
  | with_reducible refine Sx.next ?_
  | with_reducible refine Sx.brk ?_
  | with_reducible refine Sx.cont ?_
  | with_reducible refine Sx.drop ?_
  | with_reducible refine Sx.asg ?_
  | with_reducible refine Sx.gname ?_
  | with_reducible refine Sx.ifS ?_
  | with_reducible refine Sx.var ?_
  | with_reducible refine Sx.con ?_
  | with_reducible refine Sx.op ?_
  | with_reducible refine Sx.un ?_
  | with_reducible refine Sx.cb ?_
  | with_reducible refine Sx.cons ?_
  | with_reducible refine Sx.nil ?_
  | with_reducible refine Sx.call ?_
  | with_reducible refine Sx.test ?_
  | with_reducible refine Sx.tb_ ?_
  | with_reducible refine Sx.bl ?_
  | with_reducible refine Sx.and_ ?_
  | with_reducible refine Sx.or_ ?_
  | with_reducible refine Sx.not_ ?_
  | with_reducible refine Sx.andV ?_
  | with_reducible refine Sx.orV ?_
  | with_reducible refine Sx.notV ?_
  | with_reducible refine Sx.ife ?_
  | with_reducible refine Sx.i0 ?_
  | with_reducible refine Sx.iU ?_
  | with_reducible refine Sx.eqI ?_
  | with_reducible refine Sx.eqS ?_
  | with_reducible refine Sx.neI ?_
  | with_reducible refine Sx.neS ?_
  | with_reducible refine Sx.isN' ?_
  | with_reducible refine Sx.chain ?_
  | with_reducible refine Sx.aug ?_
  | with_reducible refine Sx.ipI' ?_
  | with_reducible refine Sx.ifT ?_
  | with_reducible refine Sx.ifF ?_
  | with_reducible refine Sx.ifnF ?_
  | with_reducible refine Sx.ifnT ?_
  | with_reducible refine Sx.tup ?_
  | with_reducible refine Sx.lst ?_
  | with_reducible refine Sx.fld ?_
  | with_reducible refine Sx.sfld ?_
  | with_reducible refine Sx.meth ?_
  | with_reducible refine Sx.app ?_
  | with_reducible refine Sx.gcons ?_
  | with_reducible refine Sx.gnil ?_
  | with_reducible refine Sx.dget ?_
  | with_reducible refine Sx.din ?_
  | with_reducible refine Sx.dnin ?_
  | with_reducible refine Sx.dput ?_
  | with_reducible refine Sx.forS ?_
  | with_reducible refine Sx.ikeys ?_
  | with_reducible refine Sx.ienumT ?_
  | with_reducible refine Sx.scT ?_
  | with_reducible refine Sx.dc2 ?_
  | with_reducible refine Sx.tru ?_
  | with_reducible refine Sx.mv ?_
  | with_reducible refine Sx.cv ?_
  | with_reducible refine Sx.cw ?_
  | with_reducible refine Sx.join ?_
  | with_reducible refine Sx.lc ?_
  | with_reducible refine Sx.istr ?_
  | with_reducible refine Sx.ilist ?_
  | with_reducible refine Sx.itup ?_
  | with_reducible refine Sx.irng1 ?_
  | with_reducible refine Sx.irng2 ?_
  | with_reducible refine Sx.ienum ?_
  | with_reducible refine Sx.izip ?_
  | with_reducible refine Sx.irev ?_
  | with_reducible refine Sx.iitems ?_
  | with_reducible refine Sx.yes ?_
  | with_reducible refine Sx.js_cons ?_
  | with_reducible refine Sx.js_nil ?_
  | with_reducible refine Sx.fmt ?_
  | with_reducible refine Sx.isi_int ?_
  | with_reducible refine Sx.isi_intb ?_
  | with_reducible refine Sx.isi_str ?_)
local macro_rules | `(tactic| walk_at "go") => `(tactic| repeat walk_at "st")
local macro_rules | `(tactic| walk_at "is") => `(tactic| simp only [Option.isSome_some, Option.isSome_none, Bool.not_true, Bool.not_false])
/-! Rows out of the box. -/
section
variable {P : Program} {w : World} {K : PySem.W.Frag} {mg : Str → Option Value} {base : Heap}
def nmT : List Str := ["hub", "a", "west4", "b2", "far", "zz9"]
def nm (i : Nat) : Str := nmT.getD i ""
theorem nm_at {i : Nat} (h : i < 6) : (nmT.map V.str)[i]? = some (.str (nm i)) := by
  rcases i with _ | _ | _ | _ | _ | _ | i
  all_goals first | rfl | omega
theorem nm_ok : ∀ i : Fin 6, nameB (nm i) = true := by decide +kernel
theorem nm_inj : ∀ i j : Fin 6, nm i = nm j → i = j := by decide +kernel
/-- the name of row k -/
def nk (sh k : Nat) : Str := nm ((sh + k * 5) % 6)
theorem nk_inj {sh j k : Nat} (hj : j < 4) (hk : k < 4) (e : nk sh j = nk sh k) : j = k := by
  have h1 : (sh + j * 5) % 6 < 6 := Nat.mod_lt _ (by decide)
  have h2 : (sh + k * 5) % 6 < 6 := Nat.mod_lt _ (by decide)
  have := congrArg Fin.val (nm_inj ⟨_, h1⟩ ⟨_, h2⟩ e)
  have : (sh + j * 5) % 6 = (sh + k * 5) % 6 := this
  omega
theorem RowsAt.kp {b c : Addr} {H H' : Hp} {rs : List (Addr × Rw)} (k : Kp b c H H') (B : BoxAt H b c) (h : RowsAt H rs) : RowsAt H' rs := fun q hq => k.nl B (h q hq) fun _ z => (by cases z)
theorem BoxAt.upd {H : Hp} {b c x : Addr} {o : HO} (B : BoxAt H b c) (h1 : x ≠ b) (h2 : x ≠ c) : BoxAt (upd H x o) b c := by
  obtain ⟨n0, cs, a, t, sd, z1, z2, z3⟩ := B
  exact ⟨n0, cs, a, t, sd, by rw [upd_ne h1.symm]; exact z1, by rw [upd_ne h2.symm]; exact z2, z3⟩
theorem Kp.new {b c x : Addr} {H H' : Hp} {o : HO} (k : Kp b c H H') (n : H x = Option.none) : Kp b c H (upd H' x o) := fun z ob z1 z2 e => by
  rw [upd_ne (fun z0 => by rw [z0, n] at e; cases e)]
  exact k z ob z1 z2 e
/-- the rows so far -/
structure RwI (sh : Nat) (H : Hp) (pr : Addr) (rs : List (Addr × Rw)) (i : Nat) : Prop where
  lst : H pr = some (.lst (rs.map fun q => V.ref q.1))
  rows : RowsAt H rs
  len : rs.length = i
  wf : Nt.WF (revT rs)
  nms : rwN rs = (List.range i).map (nk sh)
  er : ∀ q ∈ rs, 0 ≤ q.2.er ∧ q.2.er ≤ 100 ∧ 0 ≤ q.2.de ∧ q.2.de ≤ 100
theorem RwI.snoc {sh : Nat} {H H' : Hp} {pr p : Addr} {rs : List (Addr × Rw)} {i u : Nat} {e d : Int} (I : RwI sh H pr rs i) (hi : i < 4) (hu : u < rs.length) (h' : RowsAt H' rs) (hp : H' p = some (.tup (rowV ⟨nk sh i, some rs[u].2.name, e, d⟩))) (hl : H' pr = some (.lst ((rs.map fun q => V.ref q.1) ++ [V.ref p])))
    (e0 : 0 ≤ e) (e1 : e ≤ 100) (d0 : 0 ≤ d) (d1 : d ≤ 100) : RwI sh H' pr (rs ++ [(p, ⟨nk sh i, some rs[u].2.name, e, d⟩)]) (i + 1) := by
  have em : ∀ x, x ∈ (revT rs).map (·.name) ↔ x ∈ rwN rs := fun x => by
    have := names_revT rs
    unfold Nt.names at this
    rw [this, List.mem_reverse]
  refine ⟨by rw [hl, List.map_append]; rfl, fun q hq => ?_, by rw [List.length_append, I.len]; rfl, ?_, ?_, fun q hq => ?_⟩
  · rcases List.mem_append.mp hq with z | z
    · exact h' q z
    · rw [List.mem_singleton.mp z]
      exact hp
  · have e2 : revT (rs ++ [(p, (⟨nk sh i, some rs[u].2.name, e, d⟩ : Rw))]) = ⟨nk sh i, some rs[u].2.name, e, d⟩ :: revT rs := by
      unfold revT
      rw [List.map_append, List.reverse_append]
      rfl
    rw [e2]
    refine .step _ _ _ _ _ I.wf ((em _).mpr (List.mem_map.mpr ⟨_, List.getElem_mem hu, rfl⟩)) (fun z => ?_) e0 d0
    have z := (em _).mp z
    rw [I.nms] at z
    obtain ⟨j, hj, ej⟩ := List.mem_map.mp z
    have hj := List.mem_range.mp hj
    have := nk_inj (by omega) hi ej
    omega
  · rw [rwN, List.map_append, List.range_succ, List.map_append]
    show rwN rs ++ _ = _
    rw [I.nms]
    rfl
  · rcases List.mem_append.mp hq with z | z
    · exact I.er q z
    · rw [List.mem_singleton.mp z]
      exact ⟨e0, e1, d0, d1⟩
theorem RwI.kp {sh : Nat} {b c : Addr} {H H' : Hp} {pr : Addr} {rs : List (Addr × Rw)} {i : Nat} (k : Kp b c H H') (B : BoxAt H b c) (h1 : pr ≠ b) (h2 : pr ≠ c) (I : RwI sh H pr rs i) : RwI sh H' pr rs i := ⟨k _ _ h1 h2 I.lst, I.rows.kp k B, I.len, I.wf, I.nms, I.er⟩
theorem RwI.ok {sh : Nat} {H : Hp} {pr : Addr} {rs : List (Addr × Rw)} {i : Nat} (I : RwI sh H pr rs i) (hi : i ≤ 4) : RowsOk rs := by
  refine ⟨I.wf, by rw [I.len]; omega, fun q hq => ?_, I.er⟩
  have : q.2.name ∈ rwN rs := List.mem_map.mpr ⟨q, hq, rfl⟩
  rw [I.nms] at this
  obtain ⟨j, _, e⟩ := List.mem_map.mp this
  rw [← e]
  exact nm_ok ⟨_, Nat.mod_lt _ (by decide)⟩
def sp_lrows : Sp := fun vs H Q _ => ∃ (b c : Addr) (n : Int), vs = [.ref b, .int n, .int 3, .int 4] ∧ BoxAt H b c ∧ 1 ≤ n ∧ n ≤ 4 ∧ ∀ (a : Addr) (rs : List (Addr × Rw)) H', Kp b c H H' → BoxAt H' b c → a ≠ b → a ≠ c → RL H' a rs → RowsOk rs → rs.length ≤ 4 → Q (.ref a) H'
theorem ok_law_rows (T : Tx K mg) : O__law_rows P w K mg base 2 sp_lrows := by
  have G__law_take : O__law_take P w K mg base 1 sp_ltake := ok_law_take T
  refine T.F__law_rows.ok sc__law_rows (fun vs H Q E h => ?_) (fun cdv A outer s H vs Q E hr h => ?_)
  · obtain ⟨b, c, n, rfl, _⟩ := h
    rfl
  · obtain ⟨b, c, n, rfl, B, n0, n1, k⟩ := h
    refine ⟨_, PSs.nox ((pss_cons (ps_set (i := 4) sc__law_rows.nd rfl (Or.inl rfl) (pe_lst (pa_cons (pe_str) (pa_cons (pe_str) (pa_cons (pe_str) (pa_cons (pe_str) (pa_cons (pe_str) (pa_cons (pe_str) pa_nil)))))))) (pss_cons (ps_set (i := 5) sc__law_rows.nd rfl (Or.inl rfl) (pe_call G__law_take (hr.mono (by decide)) rfl T.g__law_take T.F__law_take.kp T.b__law_take .nil pass0 (pa_cons (pv 0) (pa_cons (pe_int) pa_nil)))) (pss_cons (ps_set (i := 6) sc__law_rows.nd rfl (Or.inl rfl) (pe_lst (pa_cons (pe_tup (pa_cons (pe_ix (Kw.ixL K) (pv 4) (pv 5) (fun _ _ => rfl)) (pa_cons (pe_non) (pa_cons (pe_call G__law_take (hr.mono (by decide)) rfl T.g__law_take T.F__law_take.kp T.b__law_take .nil pass0 (pa_cons (pv 0) (pa_cons (pe_op op_add (pv 2) (pe_int)) pa_nil))) (pa_cons (pe_int) pa_nil))))) pa_nil))) (pss_cons (ps_for PassesOwn.never rfl (pi_range2 (by rfl) T.f_range (pa_cons (pe_int) (pa_cons (pe_callB (call_min2 rfl) (by rfl) T.f_min (by decide +kernel) (pa_cons (pv 1) (pa_cons (pe_int) pa_nil))) pa_nil))) (pg_name (i := 7) sc__law_rows.nd rfl (Or.inl rfl)) (pss_cons (ps_set (i := 8) sc__law_rows.nd rfl (Or.inl rfl) (pe_ix (Kw.ixT K) (pe_ix (Kw.ixL K) (pv 6) (pe_call G__law_take (hr.mono (by decide)) rfl T.g__law_take T.F__law_take.kp T.b__law_take .nil pass0 (pa_cons (pv 0) (pa_cons (pe_callB (Kw.len K) (by rfl) T.f_len (by decide +kernel) (pa_cons (pv 6) pa_nil)) pa_nil))) (fun _ _ => rfl)) (pe_int) (fun _ _ => rfl))) (pss_one (ps_expr (show PE _ _ (tBM K _ _ _ _) from pe_bm PySem.F.plainAttrs_list PySem.F.slot_list_append PySem.F.type_list_append mt_append (pv 6) (pa_cons (pe_tup (pa_cons (pe_ix (Kw.ixL K) (pv 4) (pe_op op_modN (pe_op op_add (pv 5) (pe_op op_mul (pv 7) (pe_int))) (pe_int)) (fun _ _ => rfl)) (pa_cons (pv 8) (pa_cons (pe_call G__law_take (hr.mono (by decide)) rfl T.g__law_take T.F__law_take.kp T.b__law_take .nil pass0 (pa_cons (pv 0) (pa_cons (pe_op op_add (pv 2) (pe_int)) pa_nil))) (pa_cons (pe_call G__law_take (hr.mono (by decide)) rfl T.g__law_take T.F__law_take.kp T.b__law_take .nil pass0 (pa_cons (pv 0) (pa_cons (pe_op op_add (pv 3) (pe_int)) pa_nil))) pa_nil))))) pa_nil)))))) (pss_one (ps_ret (pv 6)))))))), ?_⟩
    walk_at "go"
    refine Sx.nw (by show 6 ≤ _; decide) fun pn npn => ?_
    have s1 : Same H (upd H pn (.lst [V.str "hub", V.str "a", V.str "west4", V.str "b2", V.str "far", V.str "zz9"])) := Sx.same_new (Sx.same_rfl H) npn
    have hn1 : (upd H pn (.lst [V.str "hub", V.str "a", V.str "west4", V.str "b2", V.str "far", V.str "zz9"])) pn = some (.lst (nmT.map V.str)) := upd_same
    obtain ⟨nn1, nn2⟩ := B.nw npn
    have B1 := B.same s1
    generalize upd H pn (.lst [V.str "hub", V.str "a", V.str "west4", V.str "b2", V.str "far", V.str "zz9"]) = H1 at s1 hn1 B1
    walk_at "go"
    refine ⟨b, c, 6, rfl, B1, by decide, by decide, fun sh H2 k2 B2 sh0 sh1 => ?_⟩
    obtain ⟨sh, rfl⟩ := Int.eq_ofNat_of_zero_le sh0
    have hsh : sh < 6 := by omega
    have hn2 := k2 _ _ nn1 nn2 hn1
    walk_at "go"
    refine Sx.ixL (SqL.of hn2) (atI_nat (nm_at hsh)) ?_
    walk_at "go"
    refine ⟨b, c, 3 + 1, rfl, B2, by decide, by decide, fun e H3 k3 B3 e0 e1 => ?_⟩
    have hn3 := k3 _ _ nn1 nn2 hn2
    walk_at "go"
    refine Sx.nw (by show 4 ≤ _; decide) fun p0 np0 => ?_
    walk_at "go"
    refine Sx.nw (by show 1 ≤ _; decide) fun pr npr => ?_
    have k13 : Kp b c H H3 := (Kp.of s1).tr (k2.tr k3)
    have s3 := Sx.same_new (o := .tup [V.str (nm sh), V.non, V.int e, V.int 0]) (Sx.same_rfl H3) np0
    have s4 := Sx.same_new (o := .lst [V.ref p0]) s3 (Sx.new_none s3 npr)
    obtain ⟨nr1, nr2⟩ := (B3.same s3).nw npr
    have npn2 : pn ≠ pr := ne_of_none (s3 _ _ hn3) npr
    have kpr : H pr = none := (k13.tr (Kp.of s3)).none npr nr1 nr2
    have I4 : RwI sh (upd (upd H3 p0 (.tup [V.str (nm sh), V.non, V.int e, V.int 0])) pr (.lst [V.ref p0])) pr [(p0, ⟨nk sh 0, none, e, 0⟩)] 1 := by
      have e0' : nk sh 0 = nm sh := by
        unfold nk
        rw [Nat.zero_mul, Nat.add_zero, Nat.mod_eq_of_lt hsh]
      refine ⟨upd_same, fun q hq => ?_, rfl, .base _ _ e0, rfl, fun q hq => ?_⟩
      · rw [List.mem_singleton.mp hq]
        rw [upd_ne (ne_of_none upd_same npr), upd_same, e0']
        rfl
      · rw [List.mem_singleton.mp hq]
        exact ⟨e0, by show e ≤ 100; omega, by show (0 : Int) ≤ 0; decide, by show (0 : Int) ≤ 100; decide⟩
    have B4 := B3.same s4
    have hn4 := s4 _ _ hn3
    have k4 := k13.tr (Kp.of s4)
    generalize upd (upd H3 p0 (.tup [V.str (nm sh), V.non, V.int e, V.int 0])) pr (.lst [V.ref p0]) = H4 at I4 B4 hn4 k4
    walk_at "go"
    refine ⟨n, 6, rfl, ?_⟩
    rw [if_neg (show ¬ (6 : Int) < n by omega)]
    walk_at "go"
    refine ⟨1, n, rfl, ⟨by omega, by omega, by omega, by omega⟩, VrX.for_J (n := (n - 1).toNat) (fun i σ H' => Kp b c H H' ∧ BoxAt H' b c ∧ H' pn = some (.lst (nmT.map V.str)) ∧ (∃ rs, RwI sh H' pr rs (i + 1)) ∧ ∃ v7 v8, σ = [some (.ref b), some (.int n), some (.int 3), some (.int 4), some (.ref pn), some (.int (sh : Nat)), some (.ref pr), v7, v8])
      ⟨k4, B4, hn4, ⟨_, I4⟩, _, _, rfl⟩ (fun _ _ _ => Nat.le_refl _) (fun i _ _ hi _ => hi) ?_ ?_⟩
    · rintro i y σ H5 H6 hi ⟨k6, B6, hn6, ⟨rs, I6⟩, v7, v8, rfl⟩ ⟨rfl, rfl⟩
      have hlen := I6.len
      walk_at "go"
      refine Sx.lenL (SqL.of I6.lst) ?_
      walk_at "go"
      refine ⟨b, c, _, rfl, B6, by rw [List.length_map]; omega, by rw [List.length_map]; omega, fun u H7 k7 B7 u0 u1 => ?_⟩
      obtain ⟨u, rfl⟩ := Int.eq_ofNat_of_zero_le u0
      rw [List.length_map] at u1
      have hu : u < rs.length := by omega
      have I7 := I6.kp k7 B6 nr1 nr2
      refine Sx.ixL (SqL.of I7.lst) (v := .ref rs[u].1) (atI_nat (by rw [List.getElem?_map, List.getElem?_eq_getElem hu]; rfl)) ?_
      walk_at "go"
      refine Sx.ixT (SqT.of (I7.rows _ (List.getElem_mem hu))) (v := .str rs[u].2.name) (atI_nat (j := 0) rfl) ?_
      walk_at "go"
      refine Sx.appA I7.lst ?_
      walk_at "go"
      refine Sx.iC (.inr ⟨by decide, by decide⟩) ?_
      walk_at "go"
      refine Sx.iC (by decide) ?_
      have e6 : ((sh : Int) + (1 + (i : Int)) * 5).fmod 6 = (((sh + (i + 1) * 5) % 6 : Nat) : Int) := by
        rw [Int.fmod_eq_emod_of_nonneg _ (by decide)]
        omega
      rw [e6]
      have hn7 := k7 _ _ nn1 nn2 hn6
      refine Sx.ixL (SqL.of hn7) (atI_nat (nm_at (Nat.mod_lt _ (by decide)))) ?_
      walk_at "go"
      refine ⟨b, c, 3 + 1, rfl, B7, by decide, by decide, fun e H8 k8 B8 e0 e1 => ?_⟩
      walk_at "go"
      refine ⟨b, c, 4 + 1, rfl, B8, by decide, by decide, fun d H9 k9 B9 d0 d1 => ?_⟩
      walk_at "go"
      refine Sx.nw (by show 4 ≤ _; decide) fun p np => ?_
      have I9 := (I7.kp k8 B7 nr1 nr2).kp k9 B8 nr1 nr2
      have hn9 := k9 _ _ nn1 nn2 (k8 _ _ nn1 nn2 hn7)
      have s10 := Sx.same_new (o := .tup [V.str (nm ((sh + (i + 1) * 5) % 6)), V.str rs[u].2.name, V.int e, V.int d]) (Sx.same_rfl H9) np
      have hp10 : (upd H9 p (.tup [V.str (nm ((sh + (i + 1) * 5) % 6)), V.str rs[u].2.name, V.int e, V.int d])) p = some (.tup (rowV ⟨nk sh (i + 1), some rs[u].2.name, e, d⟩)) := upd_same
      have k10 := k6.tr (k7.tr (k8.tr (k9.tr (Kp.of s10))))
      have B10 := B9.same s10
      walk_at "go"
      refine Sx.appB (xs := rs.map fun q => V.ref q.1) (s10 _ _ I9.lst) (by rw [List.length_map]; omega) ?_
      walk_at "go"
      have hl10 := s10 _ _ I9.lst
      have r10 := I9.rows.same s10
      have hn10 := s10 _ _ hn9
      generalize upd H9 p (.tup [V.str (nm ((sh + (i + 1) * 5) % 6)), V.str rs[u].2.name, V.int e, V.int d]) = H10 at *
      have npp : p ≠ pr := fun z => by
        rw [z, hl10] at hp10
        cases hp10
      refine ⟨k10.new kpr, B10.upd nr1 nr2, by rw [upd_ne npn2]; exact hn10, ⟨_, I9.snoc (p := p) (by omega) hu (fun q hq => ?_) (by rw [upd_ne npp]; exact hp10) upd_same e0 (by omega) d0 (by omega)⟩, _, _, rfl⟩
      have z := r10 q hq
      rw [upd_ne (fun y => by rw [y, hl10] at z; cases z)]
      exact z
    · rintro σ H5 ⟨k5, B5, hn5, ⟨rs, I5⟩, v7, v8, rfl⟩
      walk_at "go"
      exact k pr rs H5 k5 B5 nr1 nr2 ⟨I5.lst, I5.rows⟩ (I5.ok (by omega)) (by rw [I5.len]; omega)
end
end Wk

set_option Elab.async false
set_option linter.all false
set_option maxRecDepth 100000
set_option maxHeartbeats 2000000
namespace Wk
open PySem PySem.Spec PyProof.Rows L2 NdefX SuX Hk
local macro_rules | `(tactic| walk_at "st") => `(tactic| first
  | with_reducible refine Sx.ret ?_
  | with_reducible refine Sx.retN ?_
  | with_reducible refine Sx.seq ?_
  | with_reducible refine Sx.next ?_
  | with_reducible refine Sx.brk ?_
  | with_reducible refine Sx.cont ?_
  | with_reducible refine Sx.drop ?_
  | with_reducible refine Sx.asg ?_
  | with_reducible refine Sx.gname ?_
  | with_reducible refine Sx.ifS ?_
  | with_reducible refine Sx.var ?_
  | with_reducible refine Sx.con ?_
  | with_reducible refine Sx.op ?_
  | with_reducible refine Sx.un ?_
  | with_reducible refine Sx.cb ?_
  | with_reducible refine Sx.cons ?_
  | with_reducible refine Sx.nil ?_
  | with_reducible refine Sx.call ?_
  | with_reducible refine Sx.test ?_
  | with_reducible refine Sx.tb_ ?_
  | with_reducible refine Sx.bl ?_
  | with_reducible refine Sx.and_ ?_
  | with_reducible refine Sx.or_ ?_
  | with_reducible refine Sx.not_ ?_
  | with_reducible refine Sx.andV ?_
  | with_reducible refine Sx.orV ?_
  | with_reducible refine Sx.notV ?_
  | with_reducible refine Sx.ife ?_
  | with_reducible refine Sx.i0 ?_
  | with_reducible refine Sx.iU ?_
  | with_reducible refine Sx.eqI ?_
  | with_reducible refine Sx.eqS ?_
  | with_reducible refine Sx.neI ?_
  | with_reducible refine Sx.neS ?_
  | with_reducible refine Sx.isN' ?_
  | with_reducible refine Sx.chain ?_
  | with_reducible refine Sx.aug ?_
  | with_reducible refine Sx.ipI' ?_
  | with_reducible refine Sx.ifT ?_
  | with_reducible refine Sx.ifF ?_
  | with_reducible refine Sx.ifnF ?_
  | with_reducible refine Sx.ifnT ?_
  | with_reducible refine Sx.tup ?_
  | with_reducible refine Sx.lst ?_
  | with_reducible refine Sx.fld ?_
  | with_reducible refine Sx.sfld ?_
  | with_reducible refine Sx.meth ?_
  | with_reducible refine Sx.app ?_
  | with_reducible refine Sx.gcons ?_
  | with_reducible refine Sx.gnil ?_
  | with_reducible refine Sx.dget ?_
  | with_reducible refine Sx.din ?_
  | with_reducible refine Sx.dnin ?_
  | with_reducible refine Sx.dput ?_
  | with_reducible refine Sx.forS ?_
  | with_reducible refine Sx.ikeys ?_
  | with_reducible refine Sx.ienumT ?_
  | with_reducible refine Sx.scT ?_
  | with_reducible refine Sx.dc2 ?_
  | with_reducible refine Sx.tru ?_
  | with_reducible refine Sx.mv ?_
  | with_reducible refine Sx.cv ?_
  | with_reducible refine Sx.cw ?_
  | with_reducible refine Sx.join ?_
  | with_reducible refine Sx.lc ?_
  | with_reducible refine Sx.istr ?_
  | with_reducible refine Sx.ilist ?_
  | with_reducible refine Sx.itup ?_
  | with_reducible refine Sx.irng1 ?_
  | with_reducible refine Sx.irng2 ?_
  | with_reducible refine Sx.ienum ?_
  | with_reducible refine Sx.izip ?_
  | with_reducible refine Sx.irev ?_
  | with_reducible refine Sx.iitems ?_
  | with_reducible refine Sx.yes ?_
  | with_reducible refine Sx.js_cons ?_
  | with_reducible refine Sx.js_nil ?_
  | with_reducible refine Sx.fmt ?_
  | with_reducible refine Sx.isi_int ?_
  | with_reducible refine Sx.isi_intb ?_
  | with_reducible refine Sx.isi_str ?_)
local macro_rules | `(tactic| walk_at "go") => `(tactic| repeat walk_at "st")
local macro_rules | `(tactic| walk_at "is") => `(tactic| simp only [Option.isSome_some, Option.isSome_none, Bool.not_true, Bool.not_false])
/-! The net, made and kept. -/
section
variable {P : Program} {w : World} {K : PySem.W.Frag} {mg : Str → Option Value} {base : Heap}
def bx (b c : Addr) : Addr → Prop := fun x => x = b ∨ x = c
theorem FmAt.kp {b c : Addr} {H H' : Hp} {a : Addr} (k : Kp b c H H') (B : BoxAt H b c) : ∀ {f : Nt.Fm}, FmAt K (bx b c) H a f → FmAt K (bx b c) H' a f
  | .win n, ⟨dx, tx, h0, h1⟩ => ⟨dx, tx, h0, k.nl B h1 fun _ z => (by cases z)⟩
  | .days bs p, ⟨dx, tx, q, h0, h1, h2, h3⟩ => ⟨dx, tx, q, h0, k.nl B h1 fun _ z => (by cases z), k q _ (fun z => h3 (.inl z)) (fun z => h3 (.inr z)) h2, h3⟩
theorem TwoAt.kp {b c : Addr} {H H' : Hp} {x : Addr} {C : Str} {f g : Nt.Fm} (k : Kp b c H H') (B : BoxAt H b c) (h : TwoAt K (bx b c) H x C f g) : TwoAt K (bx b c) H' x C f g := by
  obtain ⟨dx, tx, pe, be, a, q, h1, h2, h3⟩ := h
  exact ⟨dx, tx, pe, be, a, q, k.nl B h1 fun _ z => (by cases z), h2.kp k B, h3.kp k B⟩
theorem RsAt.kp {b c : Addr} {H H' : Hp} {x : Addr} (k : Kp b c H H') (B : BoxAt H b c) : ∀ {r : Nt.Rs}, RsAt K (bx b c) H x r → RsAt K (bx b c) H' x r
  | .pl _, h => FmAt.kp k B h
  | .lat _ _, h => TwoAt.kp k B h
  | .soo _ _, h => TwoAt.kp k B h
  | .nxt _ _, h => TwoAt.kp k B h
theorem TabAt.kp {b c : Addr} {H H' : Hp} {d : Addr} {A B' : List Str} {R : Hp → Str → Str → V → Prop} (k : Kp b c H H') (B : BoxAt H b c) (hR : ∀ a b v, R H a b v → R H' a b v) (h : TabAt H d A B' R) : TabAt H' d A B' R := by
  obtain ⟨kvs, h1, h2⟩ := h
  refine ⟨kvs, k.nl B h1 fun _ z => (by cases z), fun a ha => ?_⟩
  obtain ⟨l, kva, z1, z2, z3⟩ := h2 a ha
  refine ⟨l, kva, z1, k.nl B z2 fun _ z => (by cases z), fun b' hb => ?_⟩
  obtain ⟨v, y1, y2⟩ := z3 b' hb
  exact ⟨v, y1, hR _ _ _ y2⟩
theorem NetAt.kp {b c : Addr} {H H' : Hp} {n : Addr} {rs : List (Addr × Rw)} {r : Nt.Rs} (k : Kp b c H H') (B : BoxAt H b c) (h : NetAt K (bx b c) H n rs r) : NetAt K (bx b c) H' n rs r := by
  obtain ⟨dx, ra, kn, ds, ks, h1, h2, h3, h4, h5, h6⟩ := h
  refine ⟨dx, ra, kn, ds, ks, k.nl B h1 fun _ z => (by cases z), h2.kp k B, k.nl B h3 fun _ z => (by cases z), h4.kp k B, h5.kp k B fun _ _ _ z => z, h6.kp k B ?_⟩
  rintro a b' v ⟨t, p, e1, e2⟩
  exact ⟨t, p, e1, k.nl B e2 fun _ z => (by cases z)⟩
theorem GapAt.kp {b c : Addr} {H H' : Hp} {d : Addr} {rs : List (Addr × Rw)} (k : Kp b c H H') (B : BoxAt H b c) (h : GapAt H d rs) : GapAt H' d rs := let ⟨kvs, h1, h2⟩ := h; ⟨kvs, k.nl B h1 fun _ z => (by cases z), h2⟩
theorem ErAt.kp {b c : Addr} {H H' : Hp} {d : Addr} {rs : List (Addr × Rw)} (k : Kp b c H H') (B : BoxAt H b c) (h : ErAt H d rs) : ErAt H' d rs := let ⟨kvs, h1, h2⟩ := h; ⟨kvs, k.nl B h1 fun _ z => (by cases z), h2⟩
theorem RL.kp {b c : Addr} {H H' : Hp} {a : Addr} {rs : List (Addr × Rw)} (k : Kp b c H H') (B : BoxAt H b c) (h1 : a ≠ b) (h2 : a ≠ c) (h : RL H a rs) : RL H' a rs := ⟨k _ _ h1 h2 h.1, RowsAt.kp k B h.2⟩
theorem rs_isr (T : Tx K mg) {bad : Addr → Prop} {H : Hp} {p : Addr} : ∀ {r : Nt.Rs}, RsAt K bad H p r → Nt.RsOk r → IsR K H p
  | .pl f, h, ok => let ⟨_, _, _, o⟩ := FmAt.ob T h ok; o.isr
  | .lat f g, ⟨dx, tx, pe, be, a, b, h1, _, _⟩, _ => ⟨_, T.isa_Later h1⟩
  | .soo f g, ⟨dx, tx, pe, be, a, b, h1, _, _⟩, _ => ⟨_, T.isa_Sooner h1⟩
  | .nxt f g, ⟨dx, tx, pe, be, a, b, h1, _, _⟩, _ => ⟨_, T.isa_Next h1⟩
theorem mkR {C : Addr} {sp : StK.Sp2} {E : XK} {t tk : TA} {σ : L2.St} {H : Hp} {Q : VK} (k : t σ H fun vs H1 => tk σ H1 fun zs H2 => ∃ y, zs = [y] ∧ ∀ x dx, H2 x = none → H2 dx = none → dx ≠ x →
  sp (.ref x :: vs) y (upd (upd H2 dx (.own x)) x (.ins C dx [])) (fun v H3 => v = .non ∧ Q (.ref x) H3) E) : StK.tMakeKR C sp E t tk σ H Q := k
theorem net_make (T : Tx K mg) {bad : Addr → Prop} {H : Hp} {a p : Addr} {rs : List (Addr × Rw)} {r : Nt.Rs} {Q : VK} {E : XK} (hl : RL H a rs) (ok : RowsOk rs) (hp : RsAt K bad H p r) (rok : Nt.RsOk r) (k : ∀ n H', Same H H' → NetAt K bad H' n rs r → Q (.ref n) H') :
    ∃ y, [V.ref p] = [y] ∧ ∀ x dx, H x = none → H dx = none → dx ≠ x → sp_Net_make K bad (V.ref x :: rs.map fun q => V.ref q.1) y (upd (upd H dx (.own x)) x (.ins (gC K "Net") dx [])) (fun v H3 => v = .non ∧ Q (.ref x) H3) E := by
  refine ⟨_, rfl, fun x dx nx ndx hne => ⟨_, _, rfl, by rw [List.length_map, sizeLine_eq]; have := ok.len; omega, fun t nt => ?_⟩⟩
  have s2 : Same H (upd (upd H dx (.own x)) x (.ins (gC K "Net") dx [])) := same_mk0 nx ndx
  have s3 : Same (upd (upd H dx (.own x)) x (.ins (gC K "Net") dx [])) (upd (upd (upd H dx (.own x)) x (.ins (gC K "Net") dx [])) t (.tup (rs.map fun q => V.ref q.1))) := Sx.same_new (Sx.same_rfl _) nt
  have s13 := Sx.same_tr s2 s3
  refine ⟨x, dx, p, t, rs, r, rfl, upd_same, s3 _ _ upd_same, hp.same s13, fun H' s => rs_isr T ((hp.same s13).same s) rok, hl.2.same s13, ok, fun H' st hn => ⟨rfl, k x H' (fun b o e => ?_) hn⟩⟩
  exact st b o (fun z => by rw [z, nx] at e; cases e) (s13 _ _ e)
def sp_lnet (K : PySem.W.Frag) (bad : Addr → Prop) : Sp := fun vs H Q _ => ∃ (a f : Addr) (rs : List (Addr × Rw)) (r : Nt.Rs), vs = [.ref a, .ref f] ∧ RL H a rs ∧ RowsOk rs ∧ rs.length ≤ 4 ∧ LrAt H f r ∧ Nt.RsOk r ∧ (∀ x, bad x → H x ≠ none) ∧ ∀ n H', Same H H' → NetAt K bad H' n rs r → Q (.ref n) H'
theorem ok_law_net (T : Tx K mg) (hP : PF P) (bad : Addr → Prop) : O__law_net P w K mg base 7 (sp_lnet K bad) := by
  have G__law_made : O__law_made P w K mg base 6 (sp_lmk K bad) := ok_law_made T hP bad
  have G_Net := ok_Net_init (P := P) (w := w) (base := base) T bad
  refine T.F__law_net.ok sc__law_net (fun vs H Q E h => ?_) (fun cdv A outer s H vs Q E hr h => ?_)
  · obtain ⟨a, f, rs, r, rfl, _⟩ := h
    rfl
  · obtain ⟨a, f, rs, r, rfl, hl, ok, l4, hf, rok, hb, k⟩ := h
    refine ⟨_, PSs.nox ((pss_cons (ps_set (i := 2) sc__law_net.nd rfl (Or.inl rfl) (pe_call G__law_made (hr.mono (by decide)) rfl T.g__law_made T.F__law_made.kp T.b__law_made .nil pass0 (pa_cons (pv 1) pa_nil))) (pss_cons (ps_if (pt_cmpR op_eq (pe_callB (Kw.len K) (by rfl) T.f_len (by decide +kernel) (pa_cons (pv 0) pa_nil)) (pe_int) (nomark _)) (pss_one (ps_ret (StK.pe_makeKR T.k_Net G_Net (hr.mono (by decide)) rfl T.g_Net pass0 (pa_cons (pe_ix (Kw.ixL K) (pv 0) (pe_int) (fun _ _ => rfl)) pa_nil) (pk_cons (pv 2) pk_nil)))) pss_nil) (pss_cons (ps_if (pt_cmpR op_eq (pe_callB (Kw.len K) (by rfl) T.f_len (by decide +kernel) (pa_cons (pv 0) pa_nil)) (pe_int) (nomark _)) (pss_one (ps_ret (StK.pe_makeKR T.k_Net G_Net (hr.mono (by decide)) rfl T.g_Net pass0 (pa_cons (pe_ix (Kw.ixL K) (pv 0) (pe_int) (fun _ _ => rfl)) (pa_cons (pe_ix (Kw.ixL K) (pv 0) (pe_int) (fun _ _ => rfl)) pa_nil)) (pk_cons (pv 2) pk_nil)))) pss_nil) (pss_cons (ps_if (pt_cmpR op_eq (pe_callB (Kw.len K) (by rfl) T.f_len (by decide +kernel) (pa_cons (pv 0) pa_nil)) (pe_int) (nomark _)) (pss_one (ps_ret (StK.pe_makeKR T.k_Net G_Net (hr.mono (by decide)) rfl T.g_Net pass0 (pa_cons (pe_ix (Kw.ixL K) (pv 0) (pe_int) (fun _ _ => rfl)) (pa_cons (pe_ix (Kw.ixL K) (pv 0) (pe_int) (fun _ _ => rfl)) (pa_cons (pe_ix (Kw.ixL K) (pv 0) (pe_int) (fun _ _ => rfl)) pa_nil))) (pk_cons (pv 2) pk_nil)))) pss_nil) (pss_cons (ps_if (pt_cmpR op_eq (pe_callB (Kw.len K) (by rfl) T.f_len (by decide +kernel) (pa_cons (pv 0) pa_nil)) (pe_int) (nomark _)) (pss_one (ps_ret (StK.pe_makeKR T.k_Net G_Net (hr.mono (by decide)) rfl T.g_Net pass0 (pa_cons (pe_ix (Kw.ixL K) (pv 0) (pe_int) (fun _ _ => rfl)) (pa_cons (pe_ix (Kw.ixL K) (pv 0) (pe_int) (fun _ _ => rfl)) (pa_cons (pe_ix (Kw.ixL K) (pv 0) (pe_int) (fun _ _ => rfl)) (pa_cons (pe_ix (Kw.ixL K) (pv 0) (pe_int) (fun _ _ => rfl)) pa_nil)))) (pk_cons (pv 2) pk_nil)))) pss_nil) (pss_cons (ps_if (pt_cmpR op_eq (pe_callB (Kw.len K) (by rfl) T.f_len (by decide +kernel) (pa_cons (pv 0) pa_nil)) (pe_int) (nomark _)) (pss_one (ps_ret (StK.pe_makeKR T.k_Net G_Net (hr.mono (by decide)) rfl T.g_Net pass0 (pa_cons (pe_ix (Kw.ixL K) (pv 0) (pe_int) (fun _ _ => rfl)) (pa_cons (pe_ix (Kw.ixL K) (pv 0) (pe_int) (fun _ _ => rfl)) (pa_cons (pe_ix (Kw.ixL K) (pv 0) (pe_int) (fun _ _ => rfl)) (pa_cons (pe_ix (Kw.ixL K) (pv 0) (pe_int) (fun _ _ => rfl)) (pa_cons (pe_ix (Kw.ixL K) (pv 0) (pe_int) (fun _ _ => rfl)) pa_nil))))) (pk_cons (pv 2) pk_nil)))) pss_nil) (pss_one (ps_ret (StK.pe_makeKR T.k_Net G_Net (hr.mono (by decide)) rfl T.g_Net pass0 (pa_cons (pe_ix (Kw.ixL K) (pv 0) (pe_int) (fun _ _ => rfl)) (pa_cons (pe_ix (Kw.ixL K) (pv 0) (pe_int) (fun _ _ => rfl)) (pa_cons (pe_ix (Kw.ixL K) (pv 0) (pe_int) (fun _ _ => rfl)) (pa_cons (pe_ix (Kw.ixL K) (pv 0) (pe_int) (fun _ _ => rfl)) (pa_cons (pe_ix (Kw.ixL K) (pv 0) (pe_int) (fun _ _ => rfl)) (pa_cons (pe_ix (Kw.ixL K) (pv 0) (pe_int) (fun _ _ => rfl)) pa_nil)))))) (pk_cons (pv 2) pk_nil))))))))))), ?_⟩
    walk_at "go"
    refine ⟨f, r, rfl, hf, rok, hb, fun p H1 s1 hp => ?_⟩
    have hl1 := hl.same s1
    obtain ⟨g1, g2⟩ := id hl1
    rcases rs with _ | ⟨q1, _ | ⟨q2, _ | ⟨q3, _ | ⟨q4, _ | ⟨q5, rs⟩⟩⟩⟩⟩
    · exact absurd ok.pos (by decide)
    · walk_at "go"
      refine Sx.lenL (SqL.of g1) ?_
      walk_at "go"
      refine Sx.dT (by show ((1 : Nat) : Int) = 1; decide) ?_
      walk_at "go"
      refine mkR ?_
      walk_at "go"
      refine Sx.ixL (SqL.of g1) (v := .ref q1.1) (atI_nat (j := 0) rfl) ?_
      walk_at "go"
      exact net_make T hl1 ok hp rok fun n H2 s2 hn => k n H2 (Sx.same_tr s1 s2) hn
    · walk_at "go"
      refine Sx.lenL (SqL.of g1) ?_
      walk_at "go"
      refine Sx.dF (by show ¬ ((2 : Nat) : Int) = 1; decide) ?_
      walk_at "go"
      refine Sx.lenL (SqL.of g1) ?_
      walk_at "go"
      refine Sx.dT (by show ((2 : Nat) : Int) = 2; decide) ?_
      walk_at "go"
      refine mkR ?_
      walk_at "go"
      refine Sx.ixL (SqL.of g1) (v := .ref q1.1) (atI_nat (j := 0) rfl) ?_
      walk_at "go"
      refine Sx.ixL (SqL.of g1) (v := .ref q2.1) (atI_nat (j := 1) rfl) ?_
      walk_at "go"
      exact net_make T hl1 ok hp rok fun n H2 s2 hn => k n H2 (Sx.same_tr s1 s2) hn
    · walk_at "go"
      refine Sx.lenL (SqL.of g1) ?_
      walk_at "go"
      refine Sx.dF (by show ¬ ((3 : Nat) : Int) = 1; decide) ?_
      walk_at "go"
      refine Sx.lenL (SqL.of g1) ?_
      walk_at "go"
      refine Sx.dF (by show ¬ ((3 : Nat) : Int) = 2; decide) ?_
      walk_at "go"
      refine Sx.lenL (SqL.of g1) ?_
      walk_at "go"
      refine Sx.dT (by show ((3 : Nat) : Int) = 3; decide) ?_
      walk_at "go"
      refine mkR ?_
      walk_at "go"
      refine Sx.ixL (SqL.of g1) (v := .ref q1.1) (atI_nat (j := 0) rfl) ?_
      walk_at "go"
      refine Sx.ixL (SqL.of g1) (v := .ref q2.1) (atI_nat (j := 1) rfl) ?_
      walk_at "go"
      refine Sx.ixL (SqL.of g1) (v := .ref q3.1) (atI_nat (j := 2) rfl) ?_
      walk_at "go"
      exact net_make T hl1 ok hp rok fun n H2 s2 hn => k n H2 (Sx.same_tr s1 s2) hn
    · walk_at "go"
      refine Sx.lenL (SqL.of g1) ?_
      walk_at "go"
      refine Sx.dF (by show ¬ ((4 : Nat) : Int) = 1; decide) ?_
      walk_at "go"
      refine Sx.lenL (SqL.of g1) ?_
      walk_at "go"
      refine Sx.dF (by show ¬ ((4 : Nat) : Int) = 2; decide) ?_
      walk_at "go"
      refine Sx.lenL (SqL.of g1) ?_
      walk_at "go"
      refine Sx.dF (by show ¬ ((4 : Nat) : Int) = 3; decide) ?_
      walk_at "go"
      refine Sx.lenL (SqL.of g1) ?_
      walk_at "go"
      refine Sx.dT (by show ((4 : Nat) : Int) = 4; decide) ?_
      walk_at "go"
      refine mkR ?_
      walk_at "go"
      refine Sx.ixL (SqL.of g1) (v := .ref q1.1) (atI_nat (j := 0) rfl) ?_
      walk_at "go"
      refine Sx.ixL (SqL.of g1) (v := .ref q2.1) (atI_nat (j := 1) rfl) ?_
      walk_at "go"
      refine Sx.ixL (SqL.of g1) (v := .ref q3.1) (atI_nat (j := 2) rfl) ?_
      walk_at "go"
      refine Sx.ixL (SqL.of g1) (v := .ref q4.1) (atI_nat (j := 3) rfl) ?_
      walk_at "go"
      exact net_make T hl1 ok hp rok fun n H2 s2 hn => k n H2 (Sx.same_tr s1 s2) hn
    · exact absurd l4 (by show ¬ rs.length + 5 ≤ 4; omega)
end
end Wk

set_option Elab.async false
set_option linter.all false
set_option maxRecDepth 100000
set_option maxHeartbeats 2000000
namespace Wk
open PySem PySem.Spec PyProof.Rows L2 NdefX SuX Hk
local macro_rules | `(tactic| walk_at "st") => `(tactic| first
  | with_reducible refine Sx.ret ?_
  | with_reducible refine Sx.retN ?_
  | with_reducible refine Sx.seq ?_
  | with_reducible refine Sx.next ?_
  | with_reducible refine Sx.brk ?_
  | with_reducible refine Sx.cont ?_
  | with_reducible refine Sx.drop ?_
  | with_reducible refine Sx.asg ?_
  | with_reducible refine Sx.gname ?_
  | with_reducible refine Sx.ifS ?_
  | with_reducible refine Sx.var ?_
  | with_reducible refine Sx.con ?_
  | with_reducible refine Sx.op ?_
  | with_reducible refine Sx.un ?_
  | with_reducible refine Sx.cb ?_
  | with_reducible refine Sx.cons ?_
  | with_reducible refine Sx.nil ?_
  | with_reducible refine Sx.call ?_
  | with_reducible refine Sx.test ?_
  | with_reducible refine Sx.tb_ ?_
  | with_reducible refine Sx.bl ?_
  | with_reducible refine Sx.and_ ?_
  | with_reducible refine Sx.or_ ?_
  | with_reducible refine Sx.not_ ?_
  | with_reducible refine Sx.andV ?_
  | with_reducible refine Sx.orV ?_
  | with_reducible refine Sx.notV ?_
  | with_reducible refine Sx.ife ?_
  | with_reducible refine Sx.i0 ?_
  | with_reducible refine Sx.iU ?_
  | with_reducible refine Sx.eqI ?_
  | with_reducible refine Sx.eqS ?_
  | with_reducible refine Sx.neI ?_
  | with_reducible refine Sx.neS ?_
  | with_reducible refine Sx.isN' ?_
  | with_reducible refine Sx.chain ?_
  | with_reducible refine Sx.aug ?_
  | with_reducible refine Sx.ipI' ?_
  | with_reducible refine Sx.ifT ?_
  | with_reducible refine Sx.ifF ?_
  | with_reducible refine Sx.ifnF ?_
  | with_reducible refine Sx.ifnT ?_
  | with_reducible refine Sx.tup ?_
  | with_reducible refine Sx.lst ?_
  | with_reducible refine Sx.fld ?_
  | with_reducible refine Sx.sfld ?_
  | with_reducible refine Sx.meth ?_
  | with_reducible refine Sx.app ?_
  | with_reducible refine Sx.gcons ?_
  | with_reducible refine Sx.gnil ?_
  | with_reducible refine Sx.dget ?_
  | with_reducible refine Sx.din ?_
  | with_reducible refine Sx.dnin ?_
  | with_reducible refine Sx.dput ?_
  | with_reducible refine Sx.forS ?_
  | with_reducible refine Sx.ikeys ?_
  | with_reducible refine Sx.ienumT ?_
  | with_reducible refine Sx.scT ?_
  | with_reducible refine Sx.dc2 ?_
  | with_reducible refine Sx.tru ?_
  | with_reducible refine Sx.mv ?_
  | with_reducible refine Sx.cv ?_
  | with_reducible refine Sx.cw ?_
  | with_reducible refine Sx.join ?_
  | with_reducible refine Sx.lc ?_
  | with_reducible refine Sx.istr ?_
  | with_reducible refine Sx.ilist ?_
  | with_reducible refine Sx.itup ?_
  | with_reducible refine Sx.irng1 ?_
  | with_reducible refine Sx.irng2 ?_
  | with_reducible refine Sx.ienum ?_
  | with_reducible refine Sx.izip ?_
  | with_reducible refine Sx.irev ?_
  | with_reducible refine Sx.iitems ?_
  | with_reducible refine Sx.yes ?_
  | with_reducible refine Sx.js_cons ?_
  | with_reducible refine Sx.js_nil ?_
  | with_reducible refine Sx.fmt ?_
  | with_reducible refine Sx.isi_int ?_
  | with_reducible refine Sx.isi_intb ?_
  | with_reducible refine Sx.isi_str ?_)
local macro_rules | `(tactic| walk_at "go") => `(tactic| repeat walk_at "st")
local macro_rules | `(tactic| walk_at "is") => `(tactic| simp only [Option.isSome_some, Option.isSome_none, Bool.not_true, Bool.not_false])
/-! Demands out of the box. -/
section
variable {P : Program} {w : World} {K : PySem.W.Frag} {mg : Str → Option Value} {base : Heap}
theorem least_nn {rs : List (Addr × Rw)} (ok : RowsOk rs) {x : Str} (hx : x ∈ rwN rs) : 0 ≤ leastV rs x := by
  cases rs with
  | nil => exact Int.le_refl 0
  | cons q l =>
    show 0 ≤ if x = q.2.name then 0 else _
    have em : ∀ y, y ∈ rwN (q :: l) → y ∈ Nt.names (revT (q :: l)) := fun y hy => by rw [names_revT, List.mem_reverse]; exact hy
    have h1 := Nt.D_nn ok.wf (em _ (List.mem_cons_self (a := q.2.name) (l := rwN l))) (em _ hx)
    have h2 := Nt.er_nn ok.wf x
    split <;> omega
theorem dm_ok {rs : List (Addr × Rw)} (ok : RowsOk rs) {ds : List Dm} (hl : ds.length ≤ 60) (h : ∀ q ∈ ds, q.2.1 ∈ rwN rs ∧ leastV rs q.2.1 ≤ q.2.2) : DmOk rs ds := by
  refine ⟨hl, fun q hq => (h q hq).1, fun q hq => Int.le_trans (least_nn ok (h q hq).1) (h q hq).2, fun q hq x hx ne => ?_⟩
  have h2 := (h q hq).2
  cases rs with
  | nil => cases hx
  | cons q0 l =>
    obtain rfl : q0.2.name = x := Option.some.inj hx
    have e : leastV (q0 :: l) q.2.1 = Nt.erOf (revT (q0 :: l)) q.2.1 + Nt.D (revT (q0 :: l)) q0.2.name q.2.1 + 1 := if_neg ne
    rw [e] at h2
    omega
theorem DemAt.kp {b c : Addr} {H H' : Hp} {ds : List Dm} (k : Kp b c H H') (B : BoxAt H b c) (h : DemAt H ds) : DemAt H' ds := fun q hq => k.nl B (h q hq) fun _ z => (by cases z)
theorem DemAt.same {H H' : Hp} {ds : List Dm} (k : Same H H') (h : DemAt H ds) : DemAt H' ds := fun q hq => k _ _ (h q hq)
/-- the demands so far -/
structure DmI (rs : List (Addr × Rw)) (H : Hp) (pd : Addr) (ds : List Dm) (i : Nat) : Prop where
  lst : H pd = some (.lst (dmV ds))
  dem : DemAt H ds
  len : ds.length = i
  ok : ∀ q ∈ ds, q.2.1 ∈ rwN rs ∧ leastV rs q.2.1 ≤ q.2.2
theorem DmI.same {rs : List (Addr × Rw)} {H H' : Hp} {pd : Addr} {ds : List Dm} {i : Nat} (s : Same H H') (h : DmI rs H pd ds i) : DmI rs H' pd ds i := ⟨s _ _ h.lst, h.dem.same s, h.len, h.ok⟩
theorem DmI.kp {rs : List (Addr × Rw)} {b c : Addr} {H H' : Hp} {pd : Addr} {ds : List Dm} {i : Nat} (k : Kp b c H H') (B : BoxAt H b c) (h1 : pd ≠ b) (h2 : pd ≠ c) (h : DmI rs H pd ds i) : DmI rs H' pd ds i := ⟨k _ _ h1 h2 h.lst, h.dem.kp k B, h.len, h.ok⟩
theorem DmI.snoc {rs : List (Addr × Rw)} {H : Hp} {pd p : Addr} {ds : List Dm} {i : Nat} {x : Str} {v : Int} (h : DmI rs H pd ds i) (hp : H p = some (.tup [.str x, .int v])) (hx : x ∈ rwN rs) (hv : leastV rs x ≤ v) : DmI rs (upd H pd (.lst (dmV ds ++ [V.ref p]))) pd (ds ++ [(p, (x, v))]) (i + 1) := by
  refine ⟨by rw [upd_same]; show _ = some (HO.lst ((ds ++ [(p, (x, v))]).map fun q => V.ref q.1)); rw [List.map_append]; rfl, fun q hq => ?_, by rw [List.length_append, h.len]; rfl, fun q hq => ?_⟩
  · have : H q.1 = some (.tup [.str q.2.1, .int q.2.2]) := by
      rcases List.mem_append.mp hq with z | z
      · exact h.dem q z
      · rw [List.mem_singleton.mp z]
        exact hp
    rw [upd_ne (fun z => by rw [z, h.lst] at this; cases this)]
    exact this
  · rcases List.mem_append.mp hq with z | z
    · exact h.ok q z
    · rw [List.mem_singleton.mp z]
      exact ⟨hx, hv⟩
def sp_lbooked : Sp := fun vs H Q _ => ∃ (b c a f : Addr) (n : Int) (rs : List (Addr × Rw)) (r : Nt.Rs), vs = [.ref b, .ref a, .ref f, .int n, .int 20] ∧ BoxAt H b c ∧ RL H a rs ∧ a ≠ b ∧ a ≠ c ∧ RowsOk rs ∧ LrAt H f r ∧ Nt.RsOk r ∧ 0 ≤ n ∧ n ≤ 60 ∧
  ∀ (d : Addr) (ds : List Dm) H', Kp b c H H' → BoxAt H' b c → d ≠ b → d ≠ c → DmAt H' d false ds → DmOk rs ds → ds.length = n.toNat → Q (.ref d) H'
theorem ok_law_booked (T : Tx K mg) : O__law_booked P w K mg base 5 sp_lbooked := by
  have G__law_take : O__law_take P w K mg base 1 sp_ltake := ok_law_take T
  have G__law_gaps : O__law_gaps P w K mg base 4 sp_lgaps := ok_law_gaps T
  have G__law_errors : O__law_errors P w K mg base 1 sp_lerr := ok_law_errors T
  have G__law_after : O__law_after P w K mg base 3 sp_lra := ok_law_after T
  have G__law_least : O__law_least P w K mg base 3 sp_lleast := ok_law_least T
  refine T.F__law_booked.ok sc__law_booked (fun vs H Q E h => ?_) (fun cdv A outer s H vs Q E hr h => ?_)
  · obtain ⟨b, c, a, f, n, rs, r, rfl, _⟩ := h
    rfl
  · obtain ⟨b, c, a, f, n, rs, r, rfl, B, hl, na1, na2, ok, hf, rok, n0, n1, k⟩ := h
    refine ⟨_, PSs.nox ((pss_cons (ps_set (i := 5) sc__law_booked.nd rfl (Or.inl rfl) (pe_call G__law_gaps (hr.mono (by decide)) rfl T.g__law_gaps T.F__law_gaps.kp T.b__law_gaps .nil pass0 (pa_cons (pv 1) pa_nil))) (pss_cons (ps_set (i := 6) sc__law_booked.nd rfl (Or.inl rfl) (pe_call G__law_errors (hr.mono (by decide)) rfl T.g__law_errors T.F__law_errors.kp T.b__law_errors .nil pass0 (pa_cons (pv 1) pa_nil))) (pss_cons (ps_set (i := 7) sc__law_booked.nd rfl (Or.inl rfl) (pe_lst pa_nil)) (pss_cons (ps_for PassesOwn.never rfl (pi_range1 (by rfl) T.f_range (pa_cons (pv 3) pa_nil)) (pg_name (i := 8) sc__law_booked.nd rfl (Or.inl rfl)) (pss_cons (ps_set (i := 9) sc__law_booked.nd rfl (Or.inl rfl) (pe_ix (Kw.ixT K) (pe_ix (Kw.ixL K) (pv 1) (pe_call G__law_take (hr.mono (by decide)) rfl T.g__law_take T.F__law_take.kp T.b__law_take .nil pass0 (pa_cons (pv 0) (pa_cons (pe_callB (Kw.len K) (by rfl) T.f_len (by decide +kernel) (pa_cons (pv 1) pa_nil)) pa_nil))) (fun _ _ => rfl)) (pe_int) (fun _ _ => rfl))) (pss_cons (ps_set (i := 10) sc__law_booked.nd rfl (Or.inl rfl) (pe_call G__law_take (hr.mono (by decide)) rfl T.g__law_take T.F__law_take.kp T.b__law_take .nil pass0 (pa_cons (pv 0) (pa_cons (pv 4) pa_nil)))) (pss_cons (ps_if (PW.pt (pw_and (show PT _ _ (Kw.tTru K _) from pt_truth (pv 7) (by intro _; rfl)) (pw_and1 (pt_cmpR op_gt (pe_call G__law_take (hr.mono (by decide)) rfl T.g__law_take T.F__law_take.kp T.b__law_take .nil pass0 (pa_cons (pv 0) (pa_cons (pe_int) pa_nil))) (pe_int) (nomark _))))) (pss_cons (ps_set (i := 11) sc__law_booked.nd rfl (Or.inl rfl) (pe_ix (Kw.ixL K) (pv 7) (pe_call G__law_take (hr.mono (by decide)) rfl T.g__law_take T.F__law_take.kp T.b__law_take .nil pass0 (pa_cons (pv 0) (pa_cons (pe_callB (Kw.len K) (by rfl) T.f_len (by decide +kernel) (pa_cons (pv 7) pa_nil)) pa_nil))) (fun _ _ => rfl))) (pss_cons (ps_set (i := 12) sc__law_booked.nd rfl (Or.inl rfl) (pe_op op_add (pe_op op_add (pe_call G__law_after (hr.mono (by decide)) rfl T.g__law_after T.F__law_after.kp T.b__law_after .nil pass0 (pa_cons (pv 2) (pa_cons (pe_op op_add (pe_ix (Kw.ixT K) (pv 11) (pe_int) (fun _ _ => rfl)) (pe_dget (hu_of hr) (pv 6) (pe_ix (Kw.ixT K) (pv 11) (pe_int) (fun _ _ => rfl)) (fun _ _ => rfl))) pa_nil))) (pe_dget (hu_of hr) (pv 5) (pe_tup (pa_cons (pe_ix (Kw.ixT K) (pv 11) (pe_int) (fun _ _ => rfl)) (pa_cons (pv 9) pa_nil))) (fun _ _ => rfl))) (pe_dget (hu_of hr) (pv 6) (pv 9) (fun _ _ => rfl)))) (pss_one (ps_set (i := 10) sc__law_booked.nd rfl (Or.inl rfl) (pe_op op_add (pe_callB (call_min2 rfl) (by rfl) T.f_min (by decide +kernel) (pa_cons (pv 12) (pa_cons (pe_op op_mul (pe_int) (pv 4)) pa_nil))) (pe_call G__law_take (hr.mono (by decide)) rfl T.g__law_take T.F__law_take.kp T.b__law_take .nil pass0 (pa_cons (pv 0) (pa_cons (pe_int) pa_nil)))))))) pss_nil) (pss_one (ps_expr (show PE _ _ (tBM K _ _ _ _) from pe_bm PySem.F.plainAttrs_list PySem.F.slot_list_append PySem.F.type_list_append mt_append (pv 7) (pa_cons (pe_tup (pa_cons (pv 9) (pa_cons (pe_callB (call_max2 rfl) (by rfl) T.f_max (by decide +kernel) (pa_cons (pv 10) (pa_cons (pe_call G__law_least (hr.mono (by decide)) rfl T.g__law_least T.F__law_least.kp T.b__law_least .nil pass0 (pa_cons (pv 1) (pa_cons (pv 9) pa_nil))) pa_nil))) pa_nil))) pa_nil)))))))) (pss_one (ps_ret (pv 7)))))))), ?_⟩
    have l12 := ok.len
    have lpos := ok.pos
    walk_at "go"
    refine ⟨a, rs, rfl, hl, ok, fun g H1 s1 hg1 => ?_⟩
    walk_at "go"
    refine ⟨a, rs, rfl, hl.same s1, ok, fun e H2 s2 he2 => ?_⟩
    walk_at "go"
    refine Sx.nw (by show 0 ≤ _; decide) fun pd npd => ?_
    have s12 := Sx.same_tr s1 s2
    have B2 := B.same s12
    have s3 : Same H2 (upd H2 pd (.lst [])) := Sx.same_new (Sx.same_rfl H2) npd
    obtain ⟨nd1, nd2⟩ := B2.nw npd
    have kpd := Sx.new_none s12 npd
    have I3 : DmI rs (upd H2 pd (.lst [])) pd [] 0 := ⟨upd_same, fun q hq => (by cases hq), rfl, fun q hq => (by cases hq)⟩
    have hg3 := (hg1.same s2).same s3
    have he3 := he2.same s3
    have k3 : Kp b c H (upd H2 pd (.lst [])) := Kp.of (Sx.same_tr s12 s3)
    have B3 := B2.same s3
    generalize upd H2 pd (.lst []) = H3 at *
    walk_at "go"
    refine ⟨n, rfl, by omega, by omega, VrX.for_J (n := n.toNat) (fun i σ H' => Kp b c H H' ∧ BoxAt H' b c ∧ GapAt H' g rs ∧ ErAt H' e rs ∧ (∃ ds, DmI rs H' pd ds i) ∧ ∃ v8 v9 v10 v11 v12, σ = [some (.ref b), some (.ref a), some (.ref f), some (.int n), some (.int 20), some (.ref g), some (.ref e), some (.ref pd), v8, v9, v10, v11, v12])
      ⟨k3, B3, hg3, he3, ⟨[], I3⟩, _, _, _, _, _, rfl⟩ (fun _ _ _ => Nat.le_refl _) (fun i _ _ hi _ => hi) ?_ ?_⟩
    · rintro i y σ H4 H5 hi ⟨k4, B4, hg4, he4, ⟨ds, I4⟩, v8, v9, v10, v11, v12, rfl⟩ ⟨rfl, rfl⟩
      have hl4 := hl.kp k4 B na1 na2
      walk_at "go"
      refine Sx.lenL (SqL.of hl4.1) ?_
      walk_at "go"
      refine ⟨b, c, _, rfl, B4, by rw [List.length_map]; omega, by rw [List.length_map]; omega, fun u H6 k6 B6 u0 u1 => ?_⟩
      obtain ⟨u, rfl⟩ := Int.eq_ofNat_of_zero_le u0
      rw [List.length_map] at u1
      have hu : u < rs.length := by omega
      have hl6 := hl4.kp k6 B4 na1 na2
      refine Sx.ixL (SqL.of hl6.1) (v := .ref rs[u].1) (atI_nat (by rw [List.getElem?_map, List.getElem?_eq_getElem hu]; rfl)) ?_
      walk_at "go"
      refine Sx.ixT (SqT.of (hl6.2 _ (List.getElem_mem hu))) (v := .str rs[u].2.name) (atI_nat (j := 0) rfl) ?_
      have hxm : rs[u].2.name ∈ rwN rs := List.mem_map.mpr ⟨_, List.getElem_mem hu, rfl⟩
      generalize rs[u].2.name = x at hxm ⊢
      walk_at "go"
      refine ⟨b, c, 20, rfl, B6, by decide, by decide, fun v H7 k7 B7 v0 v1 => ?_⟩
      have k47 := k6.tr k7
      have I7 := I4.kp k47 B4 nd1 nd2
      have hg7 := hg4.kp k47 B4
      have he7 := he4.kp k47 B4
      have hl7 := hl4.kp k47 B4 na1 na2
      have kc := k4.tr k47
      clear hl4 hg4 he4 I4 hl6
      walk_at "go"
      refine Sx.truL (SqL.of I7.lst) ?_
      by_cases hd : ds = []
      · refine Sx.bF (by rw [hd]; rfl) ?_
        have B9 := B7
        have hg9 := hg7
        have he9 := he7
        have hl9 := hl7
        have I9 := I7
        walk_at "go"
        refine Sx.appA I9.lst ?_
        walk_at "go"
        refine ⟨a, rs, x, rfl, hl9, ok, hxm, fun H20 s20 => ?_⟩
        walk_at "go"
        refine ⟨_, _, rfl, ?_⟩
        generalize hm : (if leastV rs x > _ then leastV rs x else _) = m
        have lem : leastV rs x ≤ m := by
          rw [← hm]
          split <;> omega
        walk_at "go"
        refine Sx.nw (by show 2 ≤ _; decide) fun p np => ?_
        have s21 := Sx.same_tr s20 (Sx.same_new (o := .tup [V.str x, V.int m]) (Sx.same_rfl _) np)
        have hp21 : (upd H20 p (.tup [V.str x, V.int m])) p = some (.tup [V.str x, V.int m]) := upd_same
        generalize upd H20 p (.tup [V.str x, V.int m]) = H21 at s21 hp21
        have I21 := I9.same s21
        walk_at "go"
        refine Sx.appB I21.lst (by rw [List.length_map, I21.len]; omega) ?_
        walk_at "go"
        have hg21 := hg9.same s21
        have he21 := he9.same s21
        obtain ⟨kvg, g1, g2⟩ := id hg21
        obtain ⟨kve, e1, e2⟩ := id he21
        refine ⟨(kc.tr (Kp.of s21)).new kpd, (B9.same s21).upd nd1 nd2, ⟨kvg, by rw [upd_ne (fun z => by rw [z, I21.lst] at g1; cases g1)]; exact g1, g2⟩, ⟨kve, by rw [upd_ne (fun z => by rw [z, I21.lst] at e1; cases e1)]; exact e1, e2⟩, ⟨_, I21.snoc hp21 hxm lem⟩, _, _, _, _, _, rfl⟩
      · refine Sx.bT (by cases ds with
          | nil => exact absurd rfl hd
          | cons _ _ => rfl) ?_
        walk_at "go"
        refine ⟨b, c, 3, rfl, B7, by decide, by decide, fun z H8 k8 B8 z0 z1 => ?_⟩
        have hg8 := hg7.kp k8 B7
        have he8 := he7.kp k8 B7
        have hl8 := hl7.kp k8 B7 na1 na2
        have I8 := I7.kp k8 B7 nd1 nd2
        replace kc := kc.tr k8
        walk_at "go"
        by_cases hz : z > 0
        · refine Sx.dT hz ?_
          walk_at "go"
          refine Sx.lenL (SqL.of I8.lst) ?_
          walk_at "go"
          have dpos : 0 < ds.length := List.length_pos_iff.mpr hd
          have dlen := I8.len
          refine ⟨b, c, _, rfl, B8, by rw [List.length_map]; omega, by rw [List.length_map]; omega, fun t H9 k9 B9 t0 t1 => ?_⟩
          obtain ⟨t, rfl⟩ := Int.eq_ofNat_of_zero_le t0
          rw [List.length_map] at t1
          have ht : t < ds.length := by omega
          have hg9 := hg8.kp k9 B8
          have he9 := he8.kp k9 B8
          have hl9 := hl8.kp k9 B8 na1 na2
          have I9 := I8.kp k9 B8 nd1 nd2
          replace kc := kc.tr k9
          have hf9 := hf.kp kc B
          refine Sx.ixL (SqL.of I9.lst) (v := .ref ds[t].1) (atI_nat (by rw [List.getElem?_map, List.getElem?_eq_getElem ht]; rfl)) ?_
          have h1 := I9.dem _ (List.getElem_mem ht)
          have hp := (I9.ok _ (List.getElem_mem ht)).1
          generalize ds[t] = q at h1 hp ⊢
          obtain ⟨kvg, g1, g2⟩ := id hg9
          obtain ⟨kve, e1, e2⟩ := id he9
          walk_at "go"
          refine Sx.ixT (SqT.of h1) (v := .int q.2.2) (atI_nat (j := 1) rfl) ?_
          walk_at "go"
          refine Sx.ixT (SqT.of h1) (v := .str q.2.1) (atI_nat (j := 0) rfl) ?_
          refine Sx.dgS e1 (e2 _ hp) ?_
          walk_at "go"
          refine ⟨f, _, r, rfl, hf9, rok, fun H10 s10 => ?_⟩
          walk_at "go"
          refine Sx.ixT (SqT.of (s10 _ _ h1)) (v := .str q.2.1) (atI_nat (j := 0) rfl) ?_
          walk_at "go"
          refine Sx.nw (by show 2 ≤ _; decide) fun tp ntp => ?_
          refine ⟨g, _, rfl, by rw [← g2 q.2.1 hp x hxm]; exact DGet.t (k := gk q.2.1 x) (by rw [upd_ne (ne_of_none (s10 _ _ g1) ntp)]; exact s10 _ _ g1) upd_same, ?_⟩
          have s11 := Sx.same_tr s10 (Sx.same_new (o := .tup [V.str q.2.1, V.str x]) (Sx.same_rfl _) ntp)
          generalize upd H10 tp (.tup [V.str q.2.1, V.str x]) = H11 at s11
          walk_at "go"
          refine Sx.dgS (s11 _ _ e1) (e2 _ hxm) ?_
          walk_at "go"
          refine Sx.iC (.inl ⟨by decide, by decide⟩) ?_
          walk_at "go"
          refine ⟨_, _, rfl, ?_⟩
          walk_at "go"
          refine ⟨b, c, 3, rfl, B9.same s11, by decide, by decide, fun y H12 k12 B12 y0 y1 => ?_⟩
          replace hg9 := (hg9.same s11).kp k12 (B9.same s11)
          replace he9 := (he9.same s11).kp k12 (B9.same s11)
          replace hl9 := (hl9.same s11).kp k12 (B9.same s11) na1 na2
          replace I9 := (I9.same s11).kp k12 (B9.same s11) nd1 nd2
          replace kc := kc.tr ((Kp.of s11).tr k12)
          clear g1 e1 h1
          replace B9 := B12
          walk_at "go"
          refine Sx.appA I9.lst ?_
          walk_at "go"
          refine ⟨a, rs, x, rfl, hl9, ok, hxm, fun H20 s20 => ?_⟩
          walk_at "go"
          refine ⟨_, _, rfl, ?_⟩
          generalize hm : (if leastV rs x > _ then leastV rs x else _) = m
          have lem : leastV rs x ≤ m := by
            rw [← hm]
            split <;> omega
          walk_at "go"
          refine Sx.nw (by show 2 ≤ _; decide) fun p np => ?_
          have s21 := Sx.same_tr s20 (Sx.same_new (o := .tup [V.str x, V.int m]) (Sx.same_rfl _) np)
          have hp21 : (upd H20 p (.tup [V.str x, V.int m])) p = some (.tup [V.str x, V.int m]) := upd_same
          generalize upd H20 p (.tup [V.str x, V.int m]) = H21 at s21 hp21
          have I21 := I9.same s21
          walk_at "go"
          refine Sx.appB I21.lst (by rw [List.length_map, I21.len]; omega) ?_
          walk_at "go"
          have hg21 := hg9.same s21
          have he21 := he9.same s21
          obtain ⟨kvg, g1, g2⟩ := id hg21
          obtain ⟨kve, e1, e2⟩ := id he21
          refine ⟨(kc.tr (Kp.of s21)).new kpd, (B9.same s21).upd nd1 nd2, ⟨kvg, by rw [upd_ne (fun z => by rw [z, I21.lst] at g1; cases g1)]; exact g1, g2⟩, ⟨kve, by rw [upd_ne (fun z => by rw [z, I21.lst] at e1; cases e1)]; exact e1, e2⟩, ⟨_, I21.snoc hp21 hxm lem⟩, _, _, _, _, _, rfl⟩
        · refine Sx.dF hz ?_
          have B9 := B8
          have hg9 := hg8
          have he9 := he8
          have hl9 := hl8
          have I9 := I8
          walk_at "go"
          refine Sx.appA I9.lst ?_
          walk_at "go"
          refine ⟨a, rs, x, rfl, hl9, ok, hxm, fun H20 s20 => ?_⟩
          walk_at "go"
          refine ⟨_, _, rfl, ?_⟩
          generalize hm : (if leastV rs x > _ then leastV rs x else _) = m
          have lem : leastV rs x ≤ m := by
            rw [← hm]
            split <;> omega
          walk_at "go"
          refine Sx.nw (by show 2 ≤ _; decide) fun p np => ?_
          have s21 := Sx.same_tr s20 (Sx.same_new (o := .tup [V.str x, V.int m]) (Sx.same_rfl _) np)
          have hp21 : (upd H20 p (.tup [V.str x, V.int m])) p = some (.tup [V.str x, V.int m]) := upd_same
          generalize upd H20 p (.tup [V.str x, V.int m]) = H21 at s21 hp21
          have I21 := I9.same s21
          walk_at "go"
          refine Sx.appB I21.lst (by rw [List.length_map, I21.len]; omega) ?_
          walk_at "go"
          have hg21 := hg9.same s21
          have he21 := he9.same s21
          obtain ⟨kvg, g1, g2⟩ := id hg21
          obtain ⟨kve, e1, e2⟩ := id he21
          refine ⟨(kc.tr (Kp.of s21)).new kpd, (B9.same s21).upd nd1 nd2, ⟨kvg, by rw [upd_ne (fun z => by rw [z, I21.lst] at g1; cases g1)]; exact g1, g2⟩, ⟨kve, by rw [upd_ne (fun z => by rw [z, I21.lst] at e1; cases e1)]; exact e1, e2⟩, ⟨_, I21.snoc hp21 hxm lem⟩, _, _, _, _, _, rfl⟩
    · rintro σ H4 ⟨k4, B4, hg4, he4, ⟨ds, I4⟩, v8, v9, v10, v11, v12, rfl⟩
      walk_at "go"
      exact k pd ds H4 k4 B4 nd1 nd2 ⟨I4.lst, I4.dem⟩ (dm_ok ok (by rw [I4.len]; omega) I4.ok) I4.len
end
end Wk

set_option Elab.async false
set_option linter.all false
set_option maxRecDepth 100000
set_option maxHeartbeats 2000000
namespace Wk
open PySem PySem.Spec PyProof.Rows L2 NdefX SuX Hk
local macro_rules | `(tactic| walk_at "st") => `(tactic| first
  | with_reducible refine Sx.ret ?_
  | with_reducible refine Sx.retN ?_
  | with_reducible refine Sx.seq ?_
  | with_reducible refine Sx.next ?_
  | with_reducible refine Sx.brk ?_
  | with_reducible refine Sx.cont ?_
  | with_reducible refine Sx.drop ?_
  | with_reducible refine Sx.asg ?_
  | with_reducible refine Sx.gname ?_
  | with_reducible refine Sx.ifS ?_
  | with_reducible refine Sx.var ?_
  | with_reducible refine Sx.con ?_
  | with_reducible refine Sx.op ?_
  | with_reducible refine Sx.un ?_
  | with_reducible refine Sx.cb ?_
  | with_reducible refine Sx.cons ?_
  | with_reducible refine Sx.nil ?_
  | with_reducible refine Sx.call ?_
  | with_reducible refine Sx.test ?_
  | with_reducible refine Sx.tb_ ?_
  | with_reducible refine Sx.bl ?_
  | with_reducible refine Sx.and_ ?_
  | with_reducible refine Sx.or_ ?_
  | with_reducible refine Sx.not_ ?_
  | with_reducible refine Sx.andV ?_
  | with_reducible refine Sx.orV ?_
  | with_reducible refine Sx.notV ?_
  | with_reducible refine Sx.ife ?_
  | with_reducible refine Sx.i0 ?_
  | with_reducible refine Sx.iU ?_
  | with_reducible refine Sx.eqI ?_
  | with_reducible refine Sx.eqS ?_
  | with_reducible refine Sx.neI ?_
  | with_reducible refine Sx.neS ?_
  | with_reducible refine Sx.isN' ?_
  | with_reducible refine Sx.chain ?_
  | with_reducible refine Sx.aug ?_
  | with_reducible refine Sx.ipI' ?_
  | with_reducible refine Sx.ifT ?_
  | with_reducible refine Sx.ifF ?_
  | with_reducible refine Sx.ifnF ?_
  | with_reducible refine Sx.ifnT ?_
  | with_reducible refine Sx.tup ?_
  | with_reducible refine Sx.lst ?_
  | with_reducible refine Sx.fld ?_
  | with_reducible refine Sx.sfld ?_
  | with_reducible refine Sx.meth ?_
  | with_reducible refine Sx.app ?_
  | with_reducible refine Sx.gcons ?_
  | with_reducible refine Sx.gnil ?_
  | with_reducible refine Sx.dget ?_
  | with_reducible refine Sx.din ?_
  | with_reducible refine Sx.dnin ?_
  | with_reducible refine Sx.dput ?_
  | with_reducible refine Sx.forS ?_
  | with_reducible refine Sx.ikeys ?_
  | with_reducible refine Sx.ienumT ?_
  | with_reducible refine Sx.scT ?_
  | with_reducible refine Sx.dc2 ?_
  | with_reducible refine Sx.tru ?_
  | with_reducible refine Sx.mv ?_
  | with_reducible refine Sx.cv ?_
  | with_reducible refine Sx.cw ?_
  | with_reducible refine Sx.join ?_
  | with_reducible refine Sx.lc ?_
  | with_reducible refine Sx.istr ?_
  | with_reducible refine Sx.ilist ?_
  | with_reducible refine Sx.itup ?_
  | with_reducible refine Sx.irng1 ?_
  | with_reducible refine Sx.irng2 ?_
  | with_reducible refine Sx.ienum ?_
  | with_reducible refine Sx.izip ?_
  | with_reducible refine Sx.irev ?_
  | with_reducible refine Sx.iitems ?_
  | with_reducible refine Sx.yes ?_
  | with_reducible refine Sx.js_cons ?_
  | with_reducible refine Sx.js_nil ?_
  | with_reducible refine Sx.fmt ?_
  | with_reducible refine Sx.isi_int ?_
  | with_reducible refine Sx.isi_intb ?_
  | with_reducible refine Sx.isi_str ?_)
local macro_rules | `(tactic| walk_at "go") => `(tactic| repeat walk_at "st")
local macro_rules | `(tactic| walk_at "is") => `(tactic| simp only [Option.isSome_some, Option.isSome_none, Bool.not_true, Bool.not_false])
/-! The law: what stands in it. -/
section
variable {P : Program} {w : World} {K : PySem.W.Frag} {mg : Str → Option Value} {base : Heap}
def Lf (rs : List (Addr × Rw)) (r : Nt.Rs) (ds : List Dm) : Nat → Nat → Bool := fun j k => decide (k ∈ GG rs r ds j)
theorem lf_at {rs : List (Addr × Rw)} {r : Nt.Rs} {ds : List Dm} {j k : Nat} {p q : Dm} (h1 : ds[j]? = some p) (h2 : ds[k]? = some q) : Lf rs r ds j k = leadB rs r p.2 q.2 := by
  unfold Lf
  rw [Bool.eq_iff_iff, decide_eq_true_iff, mem_line]
  constructor
  · rintro ⟨a, b, e1, e2, e3⟩
    obtain rfl := Option.some.inj (h1.symm.trans e1)
    obtain rfl := Option.some.inj (h2.symm.trans e2)
    exact e3
  · exact fun e => ⟨p, q, h1, h2, e⟩
theorem lines_ok {rs : List (Addr × Rw)} {r : Nt.Rs} {ds : List Dm} (ok : RowsOk rs) (rok : Nt.RsOk r) (dok : DmOk rs ds) : LinesOk (Lf rs r ds) ds.length (chs rs r ds) := by
  have g := gr_of ok rok dok
  have M := Ma.mt_of g
  refine ⟨Ma.chains_perm M g, fun l hl => ?_, fun l hl => ?_⟩
  · obtain ⟨h, _, rfl⟩ := List.mem_map.mp hl
    exact List.cons_ne_nil _ _
  · obtain ⟨h, _, rfl⟩ := List.mem_map.mp hl
    exact ((Ma.chain_pair M g _ _).1).imp fun e => decide_eq_true e
theorem apt_self (rs : List (Addr × Rw)) (r : Nt.Rs) (ds : List Dm) : apt rs r ds = (List.range ds.length).filter (fun k => decide (k ∈ apt rs r ds)) := by
  have e : ∀ (p : Nat → Bool) (n : Nat), (List.range n).filter p = (List.range n).filter (fun k => decide (k ∈ (List.range n).filter p)) := fun p n => by
    refine List.filter_congr fun k hk => ?_
    rw [Bool.eq_iff_iff, decide_eq_true_iff, List.mem_filter]
    exact ⟨fun h => ⟨hk, h⟩, fun h => h.2⟩
  exact e _ _
theorem apt_anti {rs : List (Addr × Rw)} {r : Nt.Rs} {ds : List Dm} (ok : RowsOk rs) (rok : Nt.RsOk r) (dok : DmOk rs ds) : ∀ x ∈ apt rs r ds, ∀ y ∈ apt rs r ds, Lf rs r ds x y = false := by
  have g := gr_of ok rok dok
  have M := Ma.mt_of g
  exact fun x hx y hy => decide_eq_false ((Ma.apart_anti M g).2.2 x hx y hy)
theorem apt_lt {rs : List (Addr × Rw)} {r : Nt.Rs} {ds : List Dm} (ok : RowsOk rs) (rok : Nt.RsOk r) (dok : DmOk rs ds) : ∀ x ∈ apt rs r ds, x < ds.length := by
  have g := gr_of ok rok dok
  have M := Ma.mt_of g
  exact (Ma.apart_anti M g).2.1
theorem apt_len {rs : List (Addr × Rw)} {r : Nt.Rs} {ds : List Dm} (ok : RowsOk rs) (rok : Nt.RsOk r) (dok : DmOk rs ds) : (apt rs r ds).length = (chs rs r ds).length := by
  have g := gr_of ok rok dok
  have M := Ma.mt_of g
  exact Ma.apart_len M g
theorem great_eq {rs : List (Addr × Rw)} {r : Nt.Rs} {ds : List Dm} (ok : RowsOk rs) (rok : Nt.RsOk r) (dok : DmOk rs ds) {m : Nat} (hm : ∃ row ∈ Ma.grow (Lf rs r ds) ds.length, row.length = m) (hmax : ∀ row ∈ Ma.grow (Lf rs r ds) ds.length, row.length ≤ m) : m = (chs rs r ds).length := by
  have g := gr_of ok rok dok
  have M := Ma.mt_of g
  exact Ma.greatest_eq M g (fun a b => decide_eq_true_iff) hm hmax
theorem chs_flat {rs : List (Addr × Rw)} {r : Nt.Rs} {ds : List Dm} (ok : RowsOk rs) (rok : Nt.RsOk r) (dok : DmOk rs ds) : (∀ l ∈ chs rs r ds, ∀ x ∈ l, x < ds.length) ∧ (chs rs r ds).flatten.length = ds.length ∧ (chs rs r ds).length ≤ ds.length := by
  have L := lines_ok ok rok dok
  have e : (chs rs r ds).flatten.length = ds.length := by rw [L.perm.length_eq, List.length_range]
  refine ⟨fun l hl x hx => List.mem_range.mp (L.perm.mem_iff.mp (List.mem_flatten.mpr ⟨l, hl, hx⟩)), e, ?_⟩
  rw [← e]
  have h := L.ne
  generalize chs rs r ds = Ls at h
  induction Ls with
  | nil => exact Nat.le_refl _
  | cons l Ls ih =>
    have h1 := ih fun x hx => h x (List.mem_cons_of_mem _ hx)
    have h2 := h l List.mem_cons_self
    have h3 : 0 < l.length := List.length_pos_iff.mpr h2
    rw [List.flatten_cons, List.length_append, List.length_cons]
    omega
theorem fn_any {ι : Type} {k : Nat} {f : Addr} {fd : FuncData} {ps : List Str} {sp : ι → Sp} (F : ∀ i, FnOk P w K mg base CX0 k f fd ps (sp i)) : FnOk P w K mg base CX0 k f fd ps (fun vs H Q E => ∃ i, sp i vs H Q E) :=
  ⟨fun vs H Q E ⟨i, q⟩ => (F i).len vs H Q E q, fun A outer s H args us vs Q E hr he hb hv ⟨i, hs⟩ => (F i).run A outer s H args us vs Q E hr he hb hv hs⟩
theorem FdAt.new {H H' : Hp} {c : Addr} {Ls : List (List Nat)} (h : NewLs H H' c Ls) : FdAt H' c Ls := let ⟨_, ls, h1, h2, h3⟩ := h; ⟨ls, h1, h2, fun i l r z1 z2 => (h3 i l r z1 z2).2⟩
theorem join {G : Prop} {F X : Int → Hp → Prop} (main : (∀ n H, F n H → X n H) → G) (rest : ∀ n H, F n H → X n H) : G := main rest
/-- the table so far -/
def LdI (rs : List (Addr × Rw)) (r : Nt.Rs) (ds : List Dm) (H : Hp) (pl : Addr) (i : Nat) : Prop := ∃ ls : List Addr, H pl = some (.lst (ls.map V.ref)) ∧ ls.length = i ∧ ∀ j, j < i → ∃ l, ls[j]? = some l ∧ l ≠ pl ∧ H l = some (.lst ((List.range ds.length).map fun k => V.bl (Lf rs r ds j k)))
theorem LdI.snoc {rs : List (Addr × Rw)} {r : Nt.Rs} {ds : List Dm} {H H' : Hp} {pl p : Addr} {i : Nat} (h : LdI rs r ds H pl i) (s : Same H H') (np : p ≠ pl) (hp : H' p = some (.lst ((List.range ds.length).map fun k => V.bl (Lf rs r ds i k)))) (hi : i < 100) : (∃ acc, H' pl = some (.lst acc) ∧ acc.length ≤ 4096 ∧ LdI rs r ds (upd H' pl (.lst (acc ++ [V.ref p]))) pl (i + 1)) := by
  obtain ⟨ls, h1, h2, h3⟩ := h
  refine ⟨_, s _ _ h1, by rw [List.length_map]; omega, ls ++ [p], by rw [upd_same, List.map_append]; rfl, by rw [List.length_append, h2]; rfl, fun j hj => ?_⟩
  by_cases e : j < i
  · obtain ⟨l, z1, z2, z3⟩ := h3 j e
    exact ⟨l, by rw [List.getElem?_append_left (by omega)]; exact z1, z2, by rw [upd_ne z2]; exact s _ _ z3⟩
  · obtain rfl : j = i := by omega
    exact ⟨p, by rw [List.getElem?_append_right (by omega), h2, Nat.sub_self]; rfl, np, by rw [upd_ne np]; exact hp⟩
theorem LdI.at {rs : List (Addr × Rw)} {r : Nt.Rs} {ds : List Dm} {H : Hp} {pl : Addr} (h : LdI rs r ds H pl ds.length) : LdAt H pl (Lf rs r ds) ds.length :=
  let ⟨ls, h1, h2, h3⟩ := h
  ⟨ls, h1, h2, fun j hj => let ⟨l, z1, _, z3⟩ := h3 j hj; ⟨l, z1, z3⟩⟩
theorem dp_rows {H : Hp} : ∀ {ls : List Addr} {Ls : List (List Nat)}, ls.length = Ls.length → (∀ (i : Nat) (l : Addr) (r : List Nat), ls[i]? = some l → Ls[i]? = some r → H l = some (.lst (RpX.vn r))) → DpAll K H (ls.map V.ref) (Ls.map fun c => .list (RpX.nums c))
  | [], [], _, _ => .nil
  | l :: ls, r :: Ls, h, k => .cons (.lst (SqL.of (k 0 l r rfl rfl)) (RpX.dp_nums r)) (dp_rows (Nat.succ.inj h) fun i l r h1 h2 => k (i + 1) l r h1 h2)
theorem dp_dat {H : Hp} {t c y : Addr} {Ls : List (List Nat)} {ys : List Nat} (hc : FdAt H c Ls) (hy : H y = some (.lst (RpX.vn ys))) (ht : H t = some (.tup [.ref c, .ref y])) : Dp K H (.ref t) (RpX.dat Ls ys) := by
  obtain ⟨ls, h1, h2, h3⟩ := hc
  exact .tup (SqT.of ht) (.cons (.lst (SqL.of h1) (dp_rows h2 h3)) (.cons (.lst (SqL.of hy) (RpX.dp_nums ys)) .nil))
abbrev dmD (ds : List Dm) : List PyData := ds.map fun q => .tuple [.str q.2.1, .int q.2.2]
theorem dp_dms {H : Hp} : ∀ {ds : List Dm}, DemAt H ds → DpAll K H (dmV ds) (dmD ds)
  | [], _ => .nil
  | q :: ds, h => .cons (.tup (SqT.of (h q List.mem_cons_self)) (.cons (.str _) (.cons (.int _) .nil))) (dp_dms fun x hx => h x (List.mem_cons_of_mem _ hx))
theorem name_lay {x : Str} (h : nameB x = true) : PyData.canLay0 (.str x) = true := by
  have h2 := (Bool.and_eq_true_iff.mp h).2
  have k1 : ∀ c ∈ ltr.cps.toList, decide (c < 0x110000) = true := by decide +kernel
  have k2 : ∀ c ∈ dgt.cps.toList, decide (c < 0x110000) = true := by decide +kernel
  show x.cps.all (fun c => decide (c < 0x110000)) = true
  rw [← Array.all_toList, List.all_eq_true]
  intro c hc
  rcases Bool.or_eq_true_iff.mp (List.all_eq_true.mp h2 c hc) with z | z
  · exact k1 c (of_decide_eq_true z)
  · exact k2 c (of_decide_eq_true z)
theorem dms_lay : ∀ ds : List Dm, (∀ q ∈ ds, nameB q.2.1 = true) → PyData.canLayAll0 (dmD ds) = true
  | [], _ => rfl
  | q :: ds, h => by
    have h1 := dms_lay ds fun x hx => h x (List.mem_cons_of_mem _ hx)
    have h2 := name_lay (h q List.mem_cons_self)
    show ((PyData.canLay0 (.str q.2.1) && true) && PyData.canLayAll0 (dmD ds)) = true
    rw [h1, h2]
    rfl
theorem dms_depth : ∀ ds : List Dm, PyData.depthAll (dmD ds) ≤ 1
  | [] => Nat.zero_le _
  | q :: ds => by
    have := dms_depth ds
    show Nat.max (PyData.depth (.tuple [.str q.2.1, .int q.2.2])) (PyData.depthAll (dmD ds)) ≤ 1
    exact Nat.max_le.mpr ⟨Nat.le_refl _, this⟩
theorem dms_shaped {ds : List Dm} (h : ∀ q ∈ ds, nameB q.2.1 = true) : SeqAt.shaped (.list (dmD ds)) = true := by
  have e : PyData.depth (.list (dmD ds)) = PyData.depthAll (dmD ds) + 1 := by first | rfl | (show 1 + _ = _; omega)
  have h0 := dms_depth ds
  have h1 : PyData.depth (.list (dmD ds)) ≤ 64 := by rw [e]; omega
  exact Bool.and_eq_true_iff.mpr ⟨dms_lay ds h, decide_eq_true h1⟩
theorem dms_eqv {ds : List Dm} (h : ∀ q ∈ ds, nameB q.2.1 = true) : PyData.eqv (.list (dmD ds)) (.list (dmD ds)) = true := SeqAt.eqv_refl (.list (dmD ds)) (dms_lay ds h)
theorem dm_names {rs : List (Addr × Rw)} {ds : List Dm} (ok : RowsOk rs) (dok : DmOk rs ds) : ∀ q ∈ ds, nameB q.2.1 = true := fun q hq => by
  obtain ⟨u, hu, e⟩ := List.mem_map.mp (dok.pl q hq)
  rw [← e]
  exact ok.nm u hu
end
end Wk

set_option Elab.async false
set_option linter.all false
set_option maxRecDepth 100000
set_option maxHeartbeats 2000000
namespace Wk
open PySem PySem.Spec PyProof.Rows L2 NdefX SuX Hk
local macro_rules | `(tactic| walk_at "st") => `(tactic| first
  | with_reducible refine Sx.ret ?_
  | with_reducible refine Sx.retN ?_
  | with_reducible refine Sx.seq ?_
  | with_reducible refine Sx.next ?_
  | with_reducible refine Sx.brk ?_
  | with_reducible refine Sx.cont ?_
  | with_reducible refine Sx.drop ?_
  | with_reducible refine Sx.asg ?_
  | with_reducible refine Sx.gname ?_
  | with_reducible refine Sx.ifS ?_
  | with_reducible refine Sx.var ?_
  | with_reducible refine Sx.con ?_
  | with_reducible refine Sx.op ?_
  | with_reducible refine Sx.un ?_
  | with_reducible refine Sx.cb ?_
  | with_reducible refine Sx.cons ?_
  | with_reducible refine Sx.nil ?_
  | with_reducible refine Sx.call ?_
  | with_reducible refine Sx.test ?_
  | with_reducible refine Sx.tb_ ?_
  | with_reducible refine Sx.bl ?_
  | with_reducible refine Sx.and_ ?_
  | with_reducible refine Sx.or_ ?_
  | with_reducible refine Sx.not_ ?_
  | with_reducible refine Sx.andV ?_
  | with_reducible refine Sx.orV ?_
  | with_reducible refine Sx.notV ?_
  | with_reducible refine Sx.ife ?_
  | with_reducible refine Sx.i0 ?_
  | with_reducible refine Sx.iU ?_
  | with_reducible refine Sx.eqI ?_
  | with_reducible refine Sx.eqS ?_
  | with_reducible refine Sx.neI ?_
  | with_reducible refine Sx.neS ?_
  | with_reducible refine Sx.isN' ?_
  | with_reducible refine Sx.chain ?_
  | with_reducible refine Sx.aug ?_
  | with_reducible refine Sx.ipI' ?_
  | with_reducible refine Sx.ifT ?_
  | with_reducible refine Sx.ifF ?_
  | with_reducible refine Sx.ifnF ?_
  | with_reducible refine Sx.ifnT ?_
  | with_reducible refine Sx.tup ?_
  | with_reducible refine Sx.lst ?_
  | with_reducible refine Sx.fld ?_
  | with_reducible refine Sx.sfld ?_
  | with_reducible refine Sx.meth ?_
  | with_reducible refine Sx.app ?_
  | with_reducible refine Sx.gcons ?_
  | with_reducible refine Sx.gnil ?_
  | with_reducible refine Sx.dget ?_
  | with_reducible refine Sx.din ?_
  | with_reducible refine Sx.dnin ?_
  | with_reducible refine Sx.dput ?_
  | with_reducible refine Sx.forS ?_
  | with_reducible refine Sx.ikeys ?_
  | with_reducible refine Sx.ienumT ?_
  | with_reducible refine Sx.scT ?_
  | with_reducible refine Sx.dc2 ?_
  | with_reducible refine Sx.tru ?_
  | with_reducible refine Sx.mv ?_
  | with_reducible refine Sx.cv ?_
  | with_reducible refine Sx.cw ?_
  | with_reducible refine Sx.join ?_
  | with_reducible refine Sx.lc ?_
  | with_reducible refine Sx.istr ?_
  | with_reducible refine Sx.ilist ?_
  | with_reducible refine Sx.itup ?_
  | with_reducible refine Sx.irng1 ?_
  | with_reducible refine Sx.irng2 ?_
  | with_reducible refine Sx.ienum ?_
  | with_reducible refine Sx.izip ?_
  | with_reducible refine Sx.irev ?_
  | with_reducible refine Sx.iitems ?_
  | with_reducible refine Sx.yes ?_
  | with_reducible refine Sx.js_cons ?_
  | with_reducible refine Sx.js_nil ?_
  | with_reducible refine Sx.fmt ?_
  | with_reducible refine Sx.isi_int ?_
  | with_reducible refine Sx.isi_intb ?_
  | with_reducible refine Sx.isi_str ?_)
local macro_rules | `(tactic| walk_at "go") => `(tactic| repeat walk_at "st")
local macro_rules | `(tactic| walk_at "is") => `(tactic| simp only [Option.isSome_some, Option.isSome_none, Bool.not_true, Bool.not_false])
/-! The law's walk. -/
section
variable {P : Program} {w : World} {K : PySem.W.Frag} {mg : Str → Option Value} {base : Heap}
def sp_law (K : PySem.W.Frag) : Sp := fun vs H Q _ => ∃ (s : Addr) (ns : List Int), vs = [.ref s] ∧ SqL K H s (ns.map V.int) ∧ ∀ H', Q (.bl true) H'
theorem joinH {G : Prop} {F X : Hp → Prop} (main : (∀ H, F H → X H) → G) (rest : ∀ H, F H → X H) : G := main rest
theorem law_body (T : Tx K mg) (hP : PF P) {cdv : Value} {A : Around} {outer : List Env} {s : Shared} {H : Hp} {vs : List V} {Q : VK} {E : XK} (hgd : A.guards = some []) (hr : Room 8 (A.deeper (envOfC "law" (defScope sd_law) s.heap.objs.size (a_law K) cdv))) (h : sp_law K vs H Q E) :
    ∃ t, PSs (cxOf CX0 P w K mg base N_law "law" (defScope sd_law) (a_law K) cdv A outer s H E) (defBody sd_law) t ∧ t { nx := fun _ H' => Q .non H', rt := Q } (L2.start N_law vs) H := by
  have hu9 : (A.deeper (envOfC "law" (defScope sd_law) s.heap.objs.size (a_law K) cdv)).units + 9 < cLine := by have := hr.un; omega
  have G__law_box : O__law_box P w K mg base 1 (sp_lbox K) := ok_law_box T
  have G__law_take : O__law_take P w K mg base 1 sp_ltake := ok_law_take T
  have G__law_rows : O__law_rows P w K mg base 2 sp_lrows := ok_law_rows T
  have G__law_form : O__law_form P w K mg base 3 sp_lform := ok_law_form T
  have G__law_net : O__law_net P w K mg base 7 (fun vs H Q E => ∃ bad, sp_lnet K bad vs H Q E) := fn_any fun bad => ok_law_net T hP bad
  have G__law_booked : O__law_booked P w K mg base 5 sp_lbooked := ok_law_booked T
  have G__law_gaps : O__law_gaps P w K mg base 4 sp_lgaps := ok_law_gaps T
  have G__law_errors : O__law_errors P w K mg base 1 sp_lerr := ok_law_errors T
  have G__law_lead : O__law_lead P w K mg base 4 sp_llead := ok_law_lead T
  have G__law_number : O__law_number P w K mg base 1 sp_law_number := ok_law_number T
  have G__law_lines_good : O__law_lines_good P w K mg base 2 sp_llines := ok_law_lines_good T
  have G__law_apart : O__law_apart P w K mg base 2 sp_lapart := ok_law_apart T
  have G__law_greatest : O__law_greatest P w K mg base 1 sp_lgreat := ok_law_greatest T
  have G_needed : O_needed P w K mg base 6 (fun vs H Q E => ∃ bad, sp_needed K bad vs H Q E) := fn_any fun bad => ok_needed T bad
  have G_journeys : O_journeys P w K mg base 6 (fun vs H Q E => ∃ bad, sp_journeys K bad vs H Q E) := fn_any fun bad => ok_journeys T bad
  have G_clash : O_clash P w K mg base 6 (fun vs H Q E => ∃ bad, sp_clash K bad vs H Q E) := fn_any fun bad => ok_clash T bad
  obtain ⟨s0, ns, rfl, hs0, k⟩ := h
  refine ⟨_, PSs.nox ((pss_cons (ps_set (i := 1) sc_law.nd rfl (Or.inl rfl) (pe_call G__law_box (hr.mono (by decide)) rfl T.g__law_box T.F__law_box.kp T.b__law_box .nil pass0 (pa_cons (pv 0) pa_nil))) (pss_cons (ps_set (i := 2) sc_law.nd rfl (Or.inl rfl) (pe_call G__law_rows (hr.mono (by decide)) rfl T.g__law_rows T.F__law_rows.kp T.b__law_rows .nil pass0 (pa_cons (pv 1) (pa_cons (pe_op op_add (pe_int) (pe_call G__law_take (hr.mono (by decide)) rfl T.g__law_take T.F__law_take.kp T.b__law_take .nil pass0 (pa_cons (pv 1) (pa_cons (pe_int) pa_nil)))) (pa_cons (pe_int) (pa_cons (pe_int) pa_nil)))))) (pss_cons (ps_set (i := 3) sc_law.nd rfl (Or.inr rfl) (pe_call G__law_form (hr.mono (by decide)) rfl T.g__law_form T.F__law_form.kp T.b__law_form .nil pass0 (pa_cons (pv 1) pa_nil))) (pss_cons (ps_set (i := 4) sc_law.nd rfl (Or.inl rfl) (pe_call G__law_net (hr.mono (by decide)) rfl T.g__law_net T.F__law_net.kp T.b__law_net .nil pass0 (pa_cons (pv 2) (pa_cons (pv 3) pa_nil)))) (pss_cons (ps_set (i := 5) sc_law.nd rfl (Or.inl rfl) (pe_call G__law_take (hr.mono (by decide)) rfl T.g__law_take T.F__law_take.kp T.b__law_take .nil pass0 (pa_cons (pv 1) (pa_cons (pe_int) pa_nil)))) (pss_cons (ps_if (pt_cmpR op_eq (pe_call G__law_take (hr.mono (by decide)) rfl T.g__law_take T.F__law_take.kp T.b__law_take .nil pass0 (pa_cons (pv 1) (pa_cons (pe_int) pa_nil))) (pe_int) (nomark _)) (pss_one (ps_set (i := 5) sc_law.nd rfl (Or.inl rfl) (pe_op op_add (pe_int) (pe_call G__law_take (hr.mono (by decide)) rfl T.g__law_take T.F__law_take.kp T.b__law_take .nil pass0 (pa_cons (pv 1) (pa_cons (pe_int) pa_nil)))))) pss_nil) (pss_cons (ps_set (i := 6) sc_law.nd rfl (Or.inl rfl) (pe_call G__law_booked (hr.mono (by decide)) rfl T.g__law_booked T.F__law_booked.kp T.b__law_booked .nil pass0 (pa_cons (pv 1) (pa_cons (pv 2) (pa_cons (pv 3) (pa_cons (pv 5) (pa_cons (pe_int) pa_nil))))))) (pss_cons (ps_set (i := 7) sc_law.nd rfl (Or.inr rfl) (pe_call G__law_gaps (hr.mono (by decide)) rfl T.g__law_gaps T.F__law_gaps.kp T.b__law_gaps .nil pass0 (pa_cons (pv 2) pa_nil))) (pss_cons (ps_set (i := 8) sc_law.nd rfl (Or.inr rfl) (pe_call G__law_errors (hr.mono (by decide)) rfl T.g__law_errors T.F__law_errors.kp T.b__law_errors .nil pass0 (pa_cons (pv 2) pa_nil))) (pss_cons (ps_set (i := 9) sc_law.nd rfl (Or.inl rfl) (pe_lst pa_nil)) (pss_cons (ps_for PassesOwn.never rfl (show PI _ _ _ (iList K _) from pi_list (pv 6)) (pg_name (i := 10) sc_law.nd rfl (Or.inr rfl)) (pss_one (ps_expr (show PE _ _ (tBM K _ _ _ _) from pe_bm PySem.F.plainAttrs_list PySem.F.slot_list_append PySem.F.type_list_append mt_append (pv 9) (pa_cons (pe_lc (own := [("_law_two", 16)]) (g := gName 16) (tt := tYes) rfl sc_law.nd (show PI _ _ _ (iList K _) from pi_list (pv 6)) (blkOk_by (own := [("_law_two", 16)]) (N := N_law) (sc := defScope sd_law) (by decide +kernel)) (fun _ _ _ _ _ => (pg_name (i := 16) sc_law.nd rfl (Or.inl rfl))) (fun _ _ _ _ _ => pts_nil) (fun _ _ _ _ _ => (pe_call G__law_lead (hr.mono (by decide)) rfl T.g__law_lead T.F__law_lead.kp T.b__law_lead .nil pass0 (pa_cons (pv 7) (pa_cons (pv 8) (pa_cons (pv 3) (pa_cons (pv 10) (pa_cons (pv 16) pa_nil)))))))) pa_nil))))) (pss_cons (ps_set (i := 11) sc_law.nd rfl (Or.inl rfl) (pe_callTy (Kw.lst K) (by rfl) T.f_list (by decide +kernel) (pa_cons (pv 6) pa_nil))) (pss_cons (ps_set (i := 12) sc_law.nd rfl (Or.inl rfl) (pe_call G_journeys (hr.mono (by decide)) rfl T.g_journeys T.F_journeys.kp T.b_journeys .nil pass0 (pa_cons (pv 4) (pa_cons (pv 11) pa_nil)))) (pss_cons (ps_set (i := 13) sc_law.nd rfl (Or.inl rfl) (pe_call G_clash (hr.mono (by decide)) rfl T.g_clash T.F_clash.kp T.b_clash .nil pass0 (pa_cons (pv 4) (pa_cons (pv 11) pa_nil)))) (pss_cons (ps_if (PW.pt (pw_or (pt_not (pt_val (pe_call G__law_lines_good (hr.mono (by decide)) rfl T.g__law_lines_good T.F__law_lines_good.kp T.b__law_lines_good .nil pass0 (pa_cons (pv 9) (pa_cons (pv 12) (pa_cons (pv 5) pa_nil)))))) (pw_or1 (pt_not (pt_val (pe_call G__law_apart (hr.mono (by decide)) rfl T.g__law_apart T.F__law_apart.kp T.b__law_apart .nil pass0 (pa_cons (pv 9) (pa_cons (pv 13) (pa_cons (pv 5) pa_nil))))))))) (pss_one (ps_ret (pe_bl))) pss_nil) (pss_cons (ps_set (i := 14) sc_law.nd rfl (Or.inl rfl) (pe_callB (Kw.len K) (by rfl) T.f_len (by decide +kernel) (pa_cons (pv 12) pa_nil))) (pss_cons (ps_if (PW.pt (pw_or (pt_cmpR op_ne (pe_call G_needed (hr.mono (by decide)) rfl T.g_needed T.F_needed.kp T.b_needed .nil pass0 (pa_cons (pv 4) (pa_cons (pv 11) pa_nil))) (pv 14) (nomark _)) (pw_or (pt_cmpR op_ne (pe_callB (Kw.len K) (by rfl) T.f_len (by decide +kernel) (pa_cons (pv 13) pa_nil)) (pv 14) (nomark _)) (pw_or1 (pt_not (pt_val (pe_call G__law_number (hr.mono (by decide)) rfl T.g__law_number T.F__law_number.kp T.b__law_number .nil pass0 (pa_cons (pe_call G_needed (hr.mono (by decide)) rfl T.g_needed T.F_needed.kp T.b_needed .nil pass0 (pa_cons (pv 4) (pa_cons (pv 11) pa_nil))) pa_nil)))))))) (pss_one (ps_ret (pe_bl))) pss_nil) (pss_cons (ps_if (PW.pt (pw_and (pt_cmpR op_lt (pv 5) (pe_int) (nomark _)) (pw_and1 (pt_cmpR op_ne (pe_call G__law_greatest (hr.mono (by decide)) rfl T.g__law_greatest T.F__law_greatest.kp T.b__law_greatest .nil pass0 (pa_cons (pv 9) (pa_cons (pv 5) pa_nil))) (pv 14) (nomark _))))) (pss_one (ps_ret (pe_bl))) pss_nil) (pss_cons (ps_set (i := 15) sc_law.nd rfl (Or.inl rfl) (pe_callB (RpX.cr_repr hgd hu9) (by rfl) T.f_repr (by decide +kernel) (pa_cons (pe_tup (pa_cons (pv 12) (pa_cons (pv 13) pa_nil))) pa_nil))) (pss_cons (ps_expr (show PE _ _ (tBM K _ _ _ _) from pe_bm PySem.F.plainAttrs_list PySem.F.slot_list_append PySem.F.type_list_append mt_append (pv 12) (pa_cons (pe_lst (pa_cons (pe_int) pa_nil)) pa_nil))) (pss_cons (ps_expr (show PE _ _ (tBM K _ _ _ _) from pe_bm PySem.F.plainAttrs_list PySem.F.slot_list_append PySem.F.type_list_append mt_append (pe_ix (Kw.ixL K) (pv 12) (pe_int) (fun _ _ => rfl)) (pa_cons (pe_int) pa_nil))) (pss_cons (ps_expr (show PE _ _ (tBM K _ _ _ _) from pe_bm PySem.F.plainAttrs_list PySem.F.slot_list_append PySem.F.type_list_append mt_append (pv 13) (pa_cons (pe_int) pa_nil))) (pss_cons (ps_if (PW.pt (pw_or (pt_cmpR (op_neD hr.units) (pv 11) (pv 6) (nomark _)) (pw_or1 (pt_cmpR op_ne (pe_callB (RpX.cr_repr hgd hu9) (by rfl) T.f_repr (by decide +kernel) (pa_cons (pe_tup (pa_cons (pe_call G_journeys (hr.mono (by decide)) rfl T.g_journeys T.F_journeys.kp T.b_journeys .nil pass0 (pa_cons (pv 4) (pa_cons (pv 11) pa_nil))) (pa_cons (pe_call G_clash (hr.mono (by decide)) rfl T.g_clash T.F_clash.kp T.b_clash .nil pass0 (pa_cons (pv 4) (pa_cons (pv 11) pa_nil))) pa_nil))) pa_nil)) (pv 15) (nomark _))))) (pss_one (ps_ret (pe_bl))) pss_nil) (pss_one (ps_ret (pe_cmpR op_eq (pe_call G_needed (hr.mono (by decide)) rfl T.g_needed T.F_needed.kp T.b_needed .nil pass0 (pa_cons (pv 4) (pa_cons (show PE _ _ (tThen _ (kTup K)) from pe_tupleOf rfl T.f_tuple (pv 6)) pa_nil))) (pv 14) (nomark _)))))))))))))))))))))))))))), ?_⟩
  walk_at "go"
  refine ⟨s0, ns, rfl, hs0, fun b c H1 s1 hb0 hc0 B1 => ?_⟩
  walk_at "go"
  refine ⟨b, c, 4, rfl, B1, by decide, by decide, fun v H2 k2 B2 v0 v1 => ?_⟩
  walk_at "go"
  refine ⟨b, c, 1 + v, rfl, B2, by omega, by omega, fun a rs H3 k3 B3 na1 na2 hl3 ok l4 => ?_⟩
  walk_at "go"
  refine ⟨b, c, rfl, B3, fun f r H4 k4 B4 hf4 rok => ?_⟩
  have hl4 := hl3.kp k4 B3 na1 na2
  walk_at "go"
  refine ⟨bx b c, a, f, rs, r, rfl, hl4, ok, l4, hf4, rok, ?_, fun nt H5 s5 N5 => ?_⟩
  · obtain ⟨_, _, _, _, _, z1, z2, _⟩ := B4
    rintro x (rfl | rfl) e
    · rw [z1] at e
      cases e
    · rw [z2] at e
      cases e
  have hl5 := hl4.same s5
  have hf5 := hf4.same s5
  have B5 := B4.same s5
  walk_at "go"
  refine ⟨b, c, 9, rfl, B5, by decide, by decide, fun u H6 k6 B6 u0 u1 => ?_⟩
  walk_at "go"
  refine ⟨b, c, 12, rfl, B6, by decide, by decide, fun u2 H7 k7 B7 u20 u21 => ?_⟩
  walk_at "go"
  have k57 := k6.tr k7
  have hl7 := hl5.kp k57 B5 na1 na2
  have hf7 := hf5.kp k57 B5
  have N7 := N5.kp k57 B5
  apply join (F := fun (n : Int) (Hx : Hp) => 0 ≤ n ∧ n ≤ 24 ∧ BoxAt Hx b c ∧ RL Hx a rs ∧ LrAt Hx f r ∧ NetAt K (bx b c) Hx nt rs r)
  · intro rest
    refine Sx.ifd (fun c1 => ?_) (fun c1 => ?_)
    · walk_at "go"
      refine ⟨b, c, 16, rfl, B7, by decide, by decide, fun u3 H8 k8 B8 u30 u31 => ?_⟩
      walk_at "go"
      obtain ⟨n, hn⟩ : ∃ n, n = 9 + u3 := ⟨_, rfl⟩
      rw [← hn]
      exact rest n H8 ⟨by omega, by omega, B8, hl7.kp k8 B7 na1 na2, hf7.kp k8 B7, N7.kp k8 B7⟩
    · walk_at "go"
      exact rest u H7 ⟨by omega, by omega, B7, hl7, hf7, N7⟩
  · rintro n H8 ⟨n0, n1, B8, hl8, hf8, N8⟩
    walk_at "go"
    refine ⟨b, c, a, f, n, rs, r, rfl, B8, hl8, na1, na2, ok, hf8, rok, n0, by omega, fun d ds H9 k9 B9 nd1 nd2 hd9 dok dlen => ?_⟩
    have hl9 := hl8.kp k9 B8 na1 na2
    have hf9 := hf8.kp k9 B8
    have N9 := N8.kp k9 B8
    obtain ⟨m, rfl⟩ := Int.eq_ofNat_of_zero_le n0
    rw [Int.toNat_natCast] at dlen
    subst dlen
    clear hl3 hf4 hl4 N5 hl5 hf5 hl7 hf7 N7 hl8 hf8 N8
    walk_at "go"
    refine ⟨a, rs, rfl, hl9, ok, fun g H10 s10 hg10 => ?_⟩
    walk_at "go"
    refine ⟨a, rs, rfl, hl9.same s10, ok, fun e H11 s11 he11 => ?_⟩
    walk_at "go"
    refine Sx.nw (by show 0 ≤ _; decide) fun pl npl => ?_
    have s12 : Same H11 (upd H11 pl (.lst [])) := Sx.same_new (Sx.same_rfl H11) npl
    have s911 := Sx.same_tr s10 s11
    have hg11 := hg10.same s11
    have hf11 := hf9.same s911
    have hd11 := hd9.same s911
    have N11 := N9.same s911
    have I12 : LdI rs r ds (upd H11 pl (.lst [])) pl 0 := ⟨[], upd_same, rfl, fun j hj => absurd hj (Nat.not_lt_zero j)⟩
    generalize upd H11 pl (.lst []) = H12 at s12 I12
    clear hl9 hf9 N9 hg10
    have dl : ds.length ≤ 24 := by omega
    walk_at "go"
    refine ⟨d, rfl, ⟨_, SqL.of (s12 _ _ hd11.1)⟩, VrX.for_J (n := ds.length) (fun i σ H' => Same H11 H' ∧ LdI rs r ds H' pl i ∧ ∃ v10, σ = [some (.ref s0), some (.ref b), some (.ref a), some (.ref f), some (.ref nt), some (.int (ds.length : Nat)), some (.ref d), some (.ref g), some (.ref e), some (.ref pl), v10, none, none, none, none, none, none])
      ⟨s12, I12, _, rfl⟩ (fun _ _ h => ⟨_, SqL.of (h.1 _ _ hd11.1), by rw [List.length_map]; exact Nat.le_refl _⟩) (fun i _ _ hi h => ⟨_, V.ref ds[i].1, SqL.of (h.1 _ _ hd11.1), by rw [List.getElem?_map, List.getElem?_eq_getElem hi]; rfl⟩) ?_ ?_⟩
    · rintro i y σ H13 H14 hi ⟨s13, I13, v10, rfl⟩ ⟨rfl, hy⟩
      have hy2 := hy _ (SqL.of (s13 _ _ hd11.1))
      rw [List.getElem?_map, List.getElem?_eq_getElem hi] at hy2
      obtain rfl : V.ref ds[i].1 = y := Option.some.inj hy2
      have hpl : ∃ xs, H14 pl = some (.lst xs) := let ⟨ls, z, _⟩ := I13; ⟨_, z⟩
      obtain ⟨xs, hpl⟩ := hpl
      walk_at "go"
      refine Sx.appA hpl ?_
      walk_at "go"
      refine ⟨d, rfl, ⟨_, SqL.of (s13 _ _ hd11.1)⟩, fun D nD => ?_⟩
      have nDp : D ≠ pl := fun z => by rw [z, hpl] at nD; cases nD
      refine VrX.lc_J (n := ds.length) (fun j H' => Same H14 H' ∧ H' D = some (.lst ((List.range j).map fun k => V.bl (Lf rs r ds i k)))) ⟨Sx.same_new (Sx.same_rfl _) nD, upd_same⟩
        (fun _ h => ⟨_, SqL.of (h.1 _ _ (s13 _ _ hd11.1)), by rw [List.length_map]; exact Nat.le_refl _⟩) (fun j _ hj h => ⟨_, V.ref ds[j].1, SqL.of (h.1 _ _ (s13 _ _ hd11.1)), by rw [List.getElem?_map, List.getElem?_eq_getElem hj]; rfl⟩) ?_ ?_
      · rintro j y H15 H16 hj ⟨s15, hD⟩ ⟨rfl, hy⟩
        have s115 := Sx.same_tr s13 s15
        have hy2 := hy _ (SqL.of (s115 _ _ hd11.1))
        rw [List.getElem?_map, List.getElem?_eq_getElem hj] at hy2
        obtain rfl : V.ref ds[j].1 = y := Option.some.inj hy2
        have hq := List.getElem_mem hi
        have hq2 := List.getElem_mem hj
        walk_at "go"
        refine ⟨rfl, ?_⟩
        walk_at "go"
        refine ⟨g, e, f, ds[i].1, ds[j].1, rs, r, ds[i].2, ds[j].2, rfl, hg11.same s115, he11.same s115, hf11.same s115, rok, s115 _ _ (hd11.2 _ hq), s115 _ _ (hd11.2 _ hq2), dok.pl _ hq, dok.pl _ hq2, fun H17 s17 => ?_⟩
        rw [← lf_at (rs := rs) (r := r) (List.getElem?_eq_getElem hi) (List.getElem?_eq_getElem hj)]
        refine ⟨_, s17 _ _ hD, by rw [List.length_map, List.length_range, sizeLine_eq]; omega, Sx.same_new (Sx.same_tr s15 s17) nD, ?_⟩
        rw [upd_same, List.range_succ, List.map_append]
        rfl
      · rintro H15 ⟨s15, hD⟩
        obtain ⟨acc, a1, a2, a3⟩ := I13.snoc s15 nDp hD (by omega)
        walk_at "go"
        refine Sx.appB a1 a2 ?_
        walk_at "go"
        exact ⟨Sx.same_new (Sx.same_tr s13 s15) npl, a3, _, rfl⟩
    · rintro σ H13 ⟨s13, I13, v10, rfl⟩
      have L13 := I13.at
      walk_at "go"
      refine ⟨d, _, rfl, .inl (SqL.of (s13 _ _ hd11.1)), fun hd nhd => ?_⟩
      have s14 : Same H13 (upd H13 hd (.lst (dmV ds))) := Sx.same_new (Sx.same_rfl _) nhd
      have s114 := Sx.same_tr s13 s14
      have dm14 : DmAt (upd H13 hd (.lst (dmV ds))) hd false ds := ⟨upd_same, hd11.2.same s114⟩
      have N14 := N11.same s114
      have L14 := L13.same s14
      have d14 := hd11.same s114
      generalize upd H13 hd (.lst (dmV ds)) = H14 at dm14 N14 L14 d14
      have nms := dm_names ok dok
      walk_at "go"
      refine ⟨bx b c, nt, hd, false, rs, r, ds, rfl, ⟨N14, ok, rok, dm14, dok⟩, fun lc H15 s15 new15 => ?_⟩
      walk_at "go"
      refine ⟨bx b c, nt, hd, false, rs, r, ds, rfl, ⟨N14.same s15, ok, rok, dm14.same s15, dok⟩, fun ya H16 s16 ny15 hy16 => ?_⟩
      have s146 := Sx.same_tr s15 s16
      have F16 := (FdAt.new new15).same s16
      walk_at "go"
      refine ⟨pl, lc, ds.length, Lf rs r ds, chs rs r ds, rfl, L14.same s146, by omega, F16, lines_ok ok rok dok, fun H17 s17 => ?_⟩
      have s147 := Sx.same_tr s146 s17
      have F17 := F16.same s17
      have hy17 := s17 _ _ hy16
      walk_at "go"
      refine ⟨pl, ya, ds.length, Lf rs r ds, apt rs r ds, rfl, L14.same s147, by omega, hy17, apt_self rs r ds, apt_anti ok rok dok, fun H18 s18 => ?_⟩
      have s148 := Sx.same_tr s147 s18
      have F18 := F17.same s18
      have hy18 := s18 _ _ hy17
      obtain ⟨nlc14, ls, hlc15, lls, els⟩ := id new15
      have hlc := s18 _ _ (s17 _ _ (s16 _ _ hlc15))
      walk_at "go"
      refine Sx.lenL (SqL.of hlc) ?_
      rw [List.length_map, lls]
      walk_at "go"
      refine ⟨bx b c, nt, hd, false, rs, r, ds, rfl, ⟨N14.same s148, ok, rok, dm14.same s148, dok⟩, fun H19 s19 => ?_⟩
      have s149 := Sx.same_tr s148 s19
      walk_at "go"
      refine Sx.ndT rfl ?_
      walk_at "go"
      refine Sx.lenL (SqL.of (s19 _ _ hy18)) ?_
      rw [List.length_map, apt_len ok rok dok]
      walk_at "go"
      refine Sx.ndT rfl ?_
      walk_at "go"
      refine ⟨bx b c, nt, hd, false, rs, r, ds, rfl, ⟨N14.same s149, ok, rok, dm14.same s149, dok⟩, fun H20 s20 => ?_⟩
      have s420 := Sx.same_tr s149 s20
      walk_at "go"
      refine ⟨_, rfl, ?_⟩
      walk_at "go"
      have F20 := (F18.same s19).same s20
      have hy20 := s20 _ _ (s19 _ _ hy18)
      have hlc20 := s20 _ _ (s19 _ _ hlc)
      have s1520 := Sx.same_tr s16 (Sx.same_tr s17 (Sx.same_tr s18 (Sx.same_tr s19 s20)))
      have L20 := L14.same s420
      clear F18 F17 F16 hy18 hy17 hy16 hlc
      apply joinH (F := fun Hx => Same H20 Hx)
      · intro rest
        refine Sx.ifd (fun c1 => ?_) (fun c1 => ?_)
        · walk_at "go"
          refine ⟨pl, ds.length, Lf rs r ds, rfl, L20, by omega, fun H21 mm s21 g1 g2 => ?_⟩
          rw [great_eq ok rok dok g1 g2]
          walk_at "go"
          refine Sx.ndT rfl ?_
          walk_at "go"
          exact rest H21 s21
        · walk_at "go"
          exact rest H20 (Sx.same_rfl _)
      · intro H21 s21
        have F21 := F20.same s21
        have hy21 := s21 _ _ hy20
        have hlc21 := s21 _ _ hlc20
        have s421 := Sx.same_tr s420 s21
        have s1521 := Sx.same_tr s1520 s21
        obtain ⟨cf1, cf2, cf3⟩ := chs_flat ok rok dok
        have al := apt_len ok rok dok
        have alt := apt_lt ok rok dok
        obtain ⟨q1, q2, q3, q4⟩ := RpX.dat_ok (chs rs r ds) (apt rs r ds) (fun l hl x hx => by have := cf1 l hl x hx; omega) (fun x hx => by have := alt x hx; omega) (by omega) (by omega) (by omega)
        walk_at "go"
        refine Sx.nw (by show 2 ≤ _; decide) fun t nt' => ?_
        have s22 : Same H21 (upd H21 t (.tup [V.ref lc, V.ref ya])) := Sx.same_new (Sx.same_rfl _) nt'
        have ht22 : (upd H21 t (.tup [V.ref lc, V.ref ya])) t = some (.tup [V.ref lc, V.ref ya]) := upd_same
        generalize upd H21 t (.tup [V.ref lc, V.ref ya]) = H22 at s22 ht22
        walk_at "go"
        refine ⟨t, RpX.dat (chs rs r ds) (apt rs r ds), rfl, dp_dat (F21.same s22) (s22 _ _ hy21) ht22, q1, q2, q3, q4, ?_⟩
        have hlc22 := s22 _ _ hlc21
        have hy22 := s22 _ _ hy21
        have s422 := Sx.same_tr s421 s22
        have s1522 := Sx.same_tr s1521 s22
        have F22 := F21.same s22
        walk_at "go"
        refine Sx.appA hlc22 ?_
        walk_at "go"
        refine Sx.nw (by show 1 ≤ _; decide) fun z nz => ?_
        have s23 : Same H22 (upd H22 z (.lst [V.int 0])) := Sx.same_new (Sx.same_rfl _) nz
        have hz23 : (upd H22 z (.lst [V.int 0])) z = some (.lst [V.int 0]) := upd_same
        generalize upd H22 z (.lst [V.int 0]) = H23 at s23 hz23
        walk_at "go"
        refine Sx.appB (s23 _ _ hlc22) (by rw [List.length_map]; omega) ?_
        walk_at "go"
        obtain ⟨w0, ws, e0, hw, nw14, wl, nwl, nwy⟩ : ∃ w0 ws, atI (ls.map V.ref ++ [V.ref z]) 0 = some (V.ref w0) ∧ H23 w0 = some (.lst ws) ∧ H14 w0 = none ∧ ws.length ≤ 4096 ∧ w0 ≠ lc ∧ w0 ≠ ya := by
          cases ls with
          | nil => exact ⟨z, _, rfl, hz23, Sx.new_none s422 nz, by decide, fun y => (by rw [y, hlc22] at nz; cases nz), fun y => (by rw [y, hy22] at nz; cases nz)⟩
          | cons l ls =>
            have h0 : 0 < (chs rs r ds).length := by rw [← lls]; exact Nat.succ_pos _
            obtain ⟨n14, h15⟩ := els 0 l _ rfl (List.getElem?_eq_getElem h0)
            have cl := cf1 _ (List.getElem_mem h0)
            have cl2 : (chs rs r ds)[0].length ≤ ds.length := by
              rw [← cf2]
              exact (List.sublist_flatten_of_mem (List.getElem_mem h0)).length_le
            generalize (chs rs r ds)[0] = g0 at h15 cl2
            refine ⟨l, _, atI_nat (j := 0) rfl, s23 _ _ (s1522 _ _ h15), n14, by rw [List.length_map]; omega, fun y => ?_, fun y => ?_⟩
            · rw [y, hlc15] at h15
              cases g0 <;> cases h15
            · rw [y, ny15] at h15
              cases h15
        refine Sx.ixL (SqL.of upd_same) e0 ?_
        have nya14 : H14 ya = none := Sx.new_none s15 ny15
        have nly : ya ≠ lc := fun y => by
          rw [y, hlc15] at ny15
          cases ny15
        have hw24 : (upd H23 lc (.lst (ls.map V.ref ++ [V.ref z]))) w0 = some (.lst ws) := by rw [upd_ne nwl]; exact hw
        have hy24 : (upd H23 lc (.lst (ls.map V.ref ++ [V.ref z]))) ya = some (.lst (RpX.vn (apt rs r ds))) := by rw [upd_ne nly]; exact s23 _ _ hy22
        have s424 : Same H14 (upd H23 lc (.lst (ls.map V.ref ++ [V.ref z]))) := Sx.same_new (Sx.same_tr s422 s23) nlc14
        generalize upd H23 lc (.lst (ls.map V.ref ++ [V.ref z])) = H24 at hw24 hy24 s424
        refine Sx.appA hw24 ?_
        walk_at "go"
        refine Sx.appB hw24 wl ?_
        have s425 : Same H14 (upd H24 w0 (.lst (ws ++ [V.int 0]))) := Sx.same_new s424 nw14
        have hy25 : (upd H24 w0 (.lst (ws ++ [V.int 0]))) ya = some (.lst (RpX.vn (apt rs r ds))) := by rw [upd_ne nwy.symm]; exact hy24
        generalize upd H24 w0 (.lst (ws ++ [V.int 0])) = H25 at s425 hy25
        walk_at "go"
        refine Sx.appA hy25 ?_
        walk_at "go"
        refine Sx.appB hy25 (by rw [List.length_map, al]; omega) ?_
        have s426 : Same H14 (upd H25 ya (.lst (RpX.vn (apt rs r ds) ++ [V.int 0]))) := Sx.same_new s425 nya14
        generalize upd H25 ya (.lst (RpX.vn (apt rs r ds) ++ [V.int 0])) = H26 at s426
        have dm26 := dm14.same s426
        have d26 := d14.same s426
        have N26 := N14.same s426
        walk_at "go"
        refine ⟨.list (dmD ds), .list (dmD ds), .lst (SqL.of dm26.1) (dp_dms dm26.2), .lst (SqL.of d26.1) (dp_dms d26.2), dms_shaped nms, dms_shaped nms, ?_⟩
        rw [dms_eqv nms]
        walk_at "go"
        refine ⟨bx b c, nt, hd, false, rs, r, ds, rfl, ⟨N26, ok, rok, dm26, dok⟩, fun lc2 H27 s27 new27 => ?_⟩
        walk_at "go"
        refine ⟨bx b c, nt, hd, false, rs, r, ds, rfl, ⟨N26.same s27, ok, rok, dm26.same s27, dok⟩, fun ya2 H28 s28 ny28 hy28 => ?_⟩
        have F28 := (FdAt.new new27).same s28
        have s628 := Sx.same_tr s27 s28
        walk_at "go"
        refine Sx.nw (by show 2 ≤ _; decide) fun t2 nt2 => ?_
        have s29 : Same H28 (upd H28 t2 (.tup [V.ref lc2, V.ref ya2])) := Sx.same_new (Sx.same_rfl _) nt2
        have ht29 : (upd H28 t2 (.tup [V.ref lc2, V.ref ya2])) t2 = some (.tup [V.ref lc2, V.ref ya2]) := upd_same
        generalize upd H28 t2 (.tup [V.ref lc2, V.ref ya2]) = H29 at s29 ht29
        walk_at "go"
        refine ⟨t2, RpX.dat (chs rs r ds) (apt rs r ds), rfl, dp_dat (F28.same s29) (s29 _ _ hy28) ht29, q1, q2, q3, q4, ?_⟩
        have s629 := Sx.same_tr s628 s29
        walk_at "go"
        refine Sx.ndT rfl ?_
        walk_at "go"
        refine thenS ?_
        walk_at "go"
        refine .inl ⟨d, _, rfl, SqL.of (s629 _ _ d26.1), fun q nq => ?_⟩
        have s30 : Same H29 (upd H29 q (.tup (dmV ds))) := Sx.same_new (Sx.same_rfl _) nq
        have s630 := Sx.same_tr s629 s30
        have dm30 : DmAt (upd H29 q (.tup (dmV ds))) q true ds := ⟨upd_same, d26.2.same s630⟩
        walk_at "go"
        refine ⟨bx b c, nt, q, true, rs, r, ds, rfl, ⟨N26.same s630, ok, rok, dm30, dok⟩, fun H31 s31 => ?_⟩
        walk_at "go"
        rw [decide_eq_true rfl]
        exact k _
end
end Wk

set_option Elab.async false
set_option linter.all false
set_option maxRecDepth 100000
set_option maxHeartbeats 2000000
/-! The law, called by its caller: no guard stands. -/
namespace Wk
open PySem PySem.Spec PyProof.Rows L2 NdefX SuX Hk
section
variable {P : Program} {w : World} {K : PySem.W.Frag} {mg mb : Str → Option Value} {base : Heap}
/-- the law's def run where its caller stands -/
theorem law_run (T : Tx K mg) (hP : PF P) {z : Shared} {H : Hp} {ar : Args} {us : List Value} {vs : List V} {Q : VK} {E : XK} (rm : Room 9 callerA) (ev : Env0 P w K mg base callerA [] z H) (bd : BindsTo z (fdAt K (a_law K)) ar (P_law.zip us)) (rv : Vals vs us) (pr : sp_law K vs H Q E) :
    codeAny (model P w) callerA (.call (.ref (a_law K)) ar) (CR CX0 [] P w H z Q E) z := by
  obtain ⟨oc, od, dV, kV, doc, pm, an, cdv, ct, osl, efd, lk, cdI, _, _⟩ := T.F_law.ex
  rw [efd] at lk bd
  have ln : vs.length = P_law.length := by
    obtain ⟨q, ms, rfl, _⟩ := pr
    rfl
  have inK := PySem.W.Frag.In.keeps ev.mod.kin fun y ob hy => (ev.bs y ob hy).1
  have nl := ev.mod.nolimit.keeps fun y ob hy => (ev.bs y ob hy).1
  have kn : ∀ y ∈ P_law.zip us, (defScope sd_law).names.lookup y.1 = some .local ∨ ((defScope sd_law).names.lookup y.1 = some .cell ∧ ((cellsFrom (z.heap.objs.size + 1) (defScope sd_law).names []).lookup y.1).isSome = true) := fun ⟨n, v⟩ hy =>
    (sc_law.par n (List.of_mem_zip hy).1).elim .inl fun q => .inr ⟨q, PySem.W.cellsFrom_some _ _ _ (.inl q)⟩
  refine codeAny_call_function rm.depth (inK _ _ lk) rfl sc_law.co sc_law.gen rfl (PySem.W.codeRec_of inK cdI) (bd _ _ _ _ ?_)
  refine wpAny_newFunctionEnv_cells sc_law.kind kn fun en een z1 x => ?_
  subst een
  refine ⟨nl.keeps x.toInCall.keep, codeAny_func ?_⟩
  obtain ⟨t, dt, qt⟩ := law_body (P := P) (w := w) (base := base) (cdv := cdv) (A := callerA) (outer := []) (s := z) T hP rfl (rm.deeper _) pr
  have I : Inv (cxOf CX0 P w K mg base N_law "law" (defScope sd_law) (a_law K) cdv callerA [] z H E) [] (L2.start N_law vs) H z1 := inv_start sc_law rm.hd ev ln rv x
  refine wpAny_mono (dt.run [] z1 _ H _ I qt) (fun fl z2 hz => ?_) fun e z2 hz => hz
  cases fl with
  | brk => exact hz.elim fun _ y => y.elim fun _ y => y.2.elim
  | cont => exact hz.elim fun _ y => y.elim fun _ y => y.2.elim
  | next =>
    obtain ⟨_, H2, J, q⟩ := hz
    exact ⟨V.non, H2, J.os, J.bare, J.base, J.hok, rfl, q⟩
  | ret u =>
    obtain ⟨v, _, H2, J, r, q⟩ := hz
    exact ⟨v, H2, J.os, J.bare, J.base, J.hok, r, q⟩
/-- the law called over a script that the caller holds -/
theorem law_end (T : Tx K mg) (hP : PF P) {a : Addr} {z : Shared} {us : List Value} {ms : List Int} (inK : K.In z.heap) (gl : z.heap.Ns mainGlobals mg) (bt : z.heap.Ns builtinsNs mb) (bts : ∀ x : Str, x ≠ "__name__" → mb x = bootBuiltins x) (lim : z.heap.NoLimit) (ng : z.gens = #[])
    (sc : z.heap.get? a = some { cls := .type "list", data := .seq us.toArray }) (im : IntsAre us ms) (sz : ms.length ≤ sizeLine) :
    codeAny (model P w) callerA (.call (.ref (a_law K)) ⟨[.ref a], []⟩) (fun r y => r = .ok (.ret (.bool true)) ∧ OldK z.heap y.heap ∧ y.os = z.os ∧ AllBare y.gens) z := by
  have vv := vals_ints im
  have le := im.length
  have bd := FunD.bindsA (ps := P_law) T.F_law fun _ _ _ _ _ _ us hl => match us, hl with | [_], _ => rfl
  have go : ∀ G : Hp, Only G → SqL K G a (ms.map V.int) → HOk P w G z.heap → (∀ b, G b ≠ none → b = a) → (G a ≠ none → K.lookup a = none) →
      codeAny (model P w) callerA (.call (.ref (a_law K)) ⟨[.ref a], []⟩) (fun r y => r = .ok (.ret (.bool true)) ∧ OldK z.heap y.heap ∧ y.os = z.os ∧ AllBare y.gens) z := by
    intro G on sq gok ga gk
    have seen : ∀ {b : Addr} {o : Obj}, z.heap.get? b = some o → G b = none → (hidT z.heap G).get? b = some o := fun e n => hidT_get e n
    have dictN : ∀ {b : Addr} {o : Obj} {es : Array DictEntry} {ep : Nat}, z.heap.get? b = some o → o.data = .dict es ep → G b = none := fun {b o es ep} e dd => by
      by_cases q : G b = none
      · exact q
      · have := ga b q
        subst this
        rw [sc] at e
        cases e
        cases (show Data.seq us.toArray _ = Data.dict es ep from dd)
    have nsG : ∀ {b : Addr} {m : Str → Option Value}, z.heap.Ns b m → (hidT z.heap G).Ns b m := fun {b m} ⟨o, es, ep, e, dd, r⟩ => ⟨o, es, ep, seen e (dictN e dd), dd, r⟩
    have kG : K.In (hidT z.heap G) := fun b o e => seen (inK b o e) (by
      by_cases q : G b = none
      · exact q
      · have := ga b q
        subst this
        rw [gk q] at e
        cases e)
    have md : Mod K mg (hidT z.heap G) := ⟨kG, nsG gl, ⟨mb, nsG bt, bts⟩, let ⟨mc, h1, h2⟩ := lim; ⟨mc, nsG h1, h2⟩⟩
    have ev : Env0 P w K mg (hidT z.heap G) callerA [] z G := ⟨rfl, md, fun b o e => of_hidT e, Nat.le_of_eq (hidT_size _ _), trivial, fun b hb => (List.not_mem_nil hb).elim, gok, .of_eq ng⟩
    refine codeAny_mono (law_run T hP (vs := [.ref a]) (Q := fun v _ => v = .bl true) (E := fun _ _ _ => False) ⟨rfl, by decide, by decide⟩ ev (bd z [.ref a] rfl) (.cons rfl .nil) ⟨a, ms, rfl, sq, fun _ => rfl⟩) fun r y h => ?_
    cases r with
    | error e => exact (show False from h).elim
    | ok fl =>
      cases fl with
      | next => exact False.elim h
      | brk => exact False.elim h
      | cont => exact False.elim h
      | ret u =>
        obtain ⟨v, G2, os, bare, un, gok2, rr, q⟩ := h
        obtain rfl : v = .bl true := q
        obtain rfl : u = Value.bool true := rr
        refine ⟨rfl, OldK.of_keep fun b o e => ?_, os, bare⟩
        cases q : G b with
        | none => exact un.keep b o e q (fun y => (List.not_mem_nil y).elim) (by simp)
        | some g =>
          rcases on b with y | ⟨ob, xs, y⟩
          · rw [q] at y
            cases y
          · obtain ⟨e1, _⟩ := gok b _ y
            obtain ⟨e2, _⟩ := gok2 b _ (un.frzs b ob _ y)
            rw [e] at e1
            cases e1
            exact e2
  cases hk : K.lookup a with
  | some o =>
    have e := inK a o hk
    rw [sc] at e
    cases e
    exact go (fun _ => none) (fun _ => .inl rfl) (.inr ⟨_, us.toArray, _, hk, rfl, rfl, rfl, by rw [List.size_toArray, le]; exact sz, by simpa using vv⟩) (fun b u y => nomatch (show (none : Option HO) = some u from y)) (fun b y => (y rfl).elim) fun y => (y rfl).elim
  | none =>
    have at1 : ∀ b, b = a → (if b = a then some (HO.frz { cls := .type "list", data := .seq us.toArray } (.lst (ms.map V.int))) else none) = some (HO.frz { cls := .type "list", data := .seq us.toArray } (.lst (ms.map V.int))) := fun b hb => if_pos hb
    refine go (fun b => if b = a then some (.frz { cls := .type "list", data := .seq us.toArray } (.lst (ms.map V.int))) else none) (fun b => ?_) (.inl (.inr ⟨_, at1 a rfl⟩)) (fun b u y => ?_) (fun b y => ?_) fun _ => hk
    · by_cases hb : b = a
      · exact .inr ⟨_, _, at1 b hb⟩
      · exact .inl (if_neg hb)
    · by_cases hb : b = a
      · have y2 := (at1 b hb).symm.trans y
        cases y2
        subst hb
        exact ⟨sc, by rw [List.length_map]; exact sz, us, _, vv, sc⟩
      · have y2 := (if_neg hb).symm.trans y
        cases y2
    · by_cases hb : b = a
      · exact hb
      · exact (y (if_neg hb)).elim
end
end Wk
open PySem PySem.W PySem.Calls PyProof.Rows
theorem PySem.Challenge.cw_surelet_k81_whole_needed_is_the_longest_holds : PySem.Challenge.rw_surelet_k81_whole_needed_is_the_longest.Holds := by
  w_on; o_law
  refine HandSHeadRun.head_imp (r := OpenLaw.row PySem.Challenge.rw_surelet_k81_whole_needed_is_the_longest) (q := Hk.qv) (H := Hk.hookM) (ob := Hk.ob) (M := 12000) (loose := Hk.names) (d := HandSHeadRun.topDef (OpenLaw.row PySem.Challenge.rw_surelet_k81_whole_needed_is_the_longest).prog 70) (kwd := []) Hk.ob_eq
    Hk.run (by kernel_rfl) (by kernel_rfl) (by kernel_rfl) (by rfl) (by first | assumption | decide +kernel) (by decide +kernel) ⟨rfl, rfl, rfl, rfl, rfl, by decide +kernel⟩ ?hw ?hc
  case hw => w_witness2
  case hc =>
    refine Att.attach_call (n := 63) rfl (by kernel_rfl) fun w s₀ s₁ mg mb fa o pm cd doc a us ms G Y ho hd hcd hmg sc im sz ng => ?_
    obtain ⟨K, KX, c⟩ := Y
    have T : Wk.Tx K mg := ⟨_, KX, G.T.g, c⟩
    have e : (HandSHeadRun.topDef (OpenLaw.row PySem.Challenge.rw_surelet_k81_whole_needed_is_the_longest).prog 70).name = ("law" : PySem.Str) := by kernel_rfl
    rw [e] at hmg
    have e2 := hmg.symm.trans T.g_law
    have e3 : fa = Wk.a_law K := by
      have := Option.some.inj e2
      cases this
      rfl
    subst e3
    exact Wk.law_end T ⟨by kernel_rfl, by kernel_rfl⟩ KX G.T.g G.T.b G.T.builtins G.T.nolimit ng sc im (Nat.le_trans sz (by decide))
