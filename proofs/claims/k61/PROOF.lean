import PyProof.Rows.All
import Wide.All
import OpenK.AllK
import Wide.FinOn
import HandS.ForMost
import HandS.Exc
import HandS.Lambda
import HandS.EndTab
import HandS.AnyAll
import HandS.Walk
import HandS.Flow
import HandS.Style
import HandS.TupAny
import HandS.More
import HandS.DictComp
import HandS.Small
import HandS.WideBits
import HandS.Strs
import HandS.Remove
import HandS.Conv
import HandS.Codes
import PySem.Challenge.RW_pairmart_k61_whole_no_lie_helps_on_any_d
import KE.KDictPairs
import KE.GoesMore
import PyProof.EnumMake
import PyProof.Draws
import PyProof.GenCompD
import PyProof.Rows.SeqGen
import KE.DataMinKey
import PyProof.WalksS
import PyProof.ListStr
import HandS.HeadWalk
import HandS.HeadHook4
import KE.KNestM
set_option Elab.async false
set_option linter.all false
set_option maxRecDepth 100000
set_option maxHeartbeats 4000000
/-! ## Thy -/
/-! The plain law: deferred acceptance and lies, no program in sight. -/
namespace DA
variable {A R : Type} [DecidableEq A] [DecidableEq R]

structure Mkt (A R : Type) where
  pref : A → List R
  ord : R → List A
  seats : R → Nat

structure St (A R : Type) where
  nx : A → Nat
  hd : A → Option R

def likes (M : Mkt A R) (a : A) (r : R) : Prop := r ∈ M.pref a ∧ a ∈ M.ord r
def inside (M : Mkt A R) (hd : A → Option R) (r : R) : List A := (M.ord r).filter fun a => decide (hd a = some r)
def rk (M : Mkt A R) (a : A) : Option R → Nat
  | none => (M.pref a).length
  | some r => (M.pref a).idxOf r

structure Good (M : Mkt A R) : Prop where
  np : ∀ a, (M.pref a).Nodup
  no : ∀ r, (M.ord r).Nodup

theorem mem_inside {M : Mkt A R} {hd : A → Option R} {r : R} {a : A} : a ∈ inside M hd r ↔ a ∈ M.ord r ∧ hd a = some r := by
  unfold inside
  rw [List.mem_filter, decide_eq_true_eq]

theorem idx_inj {α : Type} [DecidableEq α] : ∀ {l : List α} {x y : α}, x ∈ l → l.idxOf x = l.idxOf y → x = y
  | [], _, _, h, _ => by cases h
  | z :: l, x, y, h, e => by
    rw [List.idxOf_cons, List.idxOf_cons] at e
    by_cases hx : z = x
    · by_cases hy : z = y
      · rw [← hx, ← hy]
      · have e1 : (z == x) = true := by simp [hx]
        have e2 : (z == y) = false := by simp [hy]
        rw [e1, e2] at e
        simp at e
    · by_cases hy : z = y
      · have e1 : (z == x) = false := by simp [hx]
        have e2 : (z == y) = true := by simp [hy]
        rw [e1, e2] at e
        simp at e
      · have e1 : (z == x) = false := by simp [hx]
        have e2 : (z == y) = false := by simp [hy]
        rw [e1, e2] at e
        simp at e
        exact idx_inj ((List.mem_cons.mp h).resolve_left fun q => hx q.symm) e

theorem idx_lt {α : Type} [DecidableEq α] {l : List α} {x : α} (h : x ∈ l) : l.idxOf x < l.length := List.idxOf_lt_length_iff.mpr h
theorem idx_mem {α : Type} [DecidableEq α] {l : List α} {x : α} (h : l.idxOf x < l.length) : x ∈ l := List.idxOf_lt_length_iff.mp h
theorem idx_le {α : Type} [DecidableEq α] {l : List α} {x : α} : l.idxOf x ≤ l.length := List.idxOf_le_length
theorem idx_at {α : Type} [DecidableEq α] : ∀ {l : List α} {i : Nat} {x : α}, l.Nodup → l[i]? = some x → l.idxOf x = i
  | [], i, x, _, h => by simp at h
  | z :: l, 0, x, _, h => by
    have e : z = x := by simpa using h
    subst e
    simp
  | z :: l, i + 1, x, nd, h => by
    obtain ⟨h1, h2⟩ := List.nodup_cons.mp nd
    have h' : l[i]? = some x := by simpa using h
    have hm : x ∈ l := List.mem_of_getElem? h'
    have hz : (z == x) = false := by
      simp
      intro e
      exact h1 (e ▸ hm)
    rw [List.idxOf_cons, hz]
    simp [idx_at h2 h']

/-- what holds at every moment of the asking; ts: when an asker was last taken -/
structure Inv (M : Mkt A R) (s : St A R) (ts : A → Nat) (T : Nat) : Prop where
  i0 : ∀ a, s.nx a ≤ (M.pref a).length
  i1 : ∀ a r, s.hd a = some r → likes M a r ∧ (M.pref a).idxOf r + 1 = s.nx a
  i2 : ∀ a r, likes M a r → (M.pref a).idxOf r < s.nx a → s.hd a ≠ some r →
    (inside M s.hd r).length = M.seats r ∧ ∀ b, b ∈ inside M s.hd r → (M.ord r).idxOf b < (M.ord r).idxOf a
  i3 : ∀ r, (inside M s.hd r).length ≤ M.seats r
  tl : ∀ a, ts a < T
  g : ∀ a b r r', s.hd a = some r → s.hd b = some r' → r ≠ r' → ts b ≤ ts a → likes M b r → (M.pref b).idxOf r < (M.pref b).idxOf r' →
    ∃ h, likes M h r ∧ (M.pref h).idxOf r < s.nx h ∧ s.hd h ≠ some r ∧ (M.ord r).idxOf h < (M.ord r).idxOf b ∧ ∀ r'', s.hd h = some r'' → ts a < ts h

def setF {α β : Type} [DecidableEq α] (f : α → β) (a : α) (v : β) : α → β := fun x => if x = a then v else f x
theorem setF_same {α β : Type} [DecidableEq α] (f : α → β) (a : α) (v : β) : setF f a v a = v := by unfold setF; rw [if_pos rfl]
theorem setF_ne {α β : Type} [DecidableEq α] (f : α → β) {a x : α} (v : β) (h : x ≠ a) : setF f a v x = f x := by unfold setF; rw [if_neg h]

/-- one ask of c -/
inductive Step (M : Mkt A R) (s : St A R) (c : A) : St A R → Prop
  | no (r : R) : (M.pref c)[s.nx c]? = some r → c ∉ M.ord r → Step M s c ⟨setF s.nx c (s.nx c + 1), s.hd⟩
  | free (r : R) : (M.pref c)[s.nx c]? = some r → c ∈ M.ord r → (inside M s.hd r).length < M.seats r → Step M s c ⟨setF s.nx c (s.nx c + 1), setF s.hd c (some r)⟩
  | full (r : R) (d : A) : (M.pref c)[s.nx c]? = some r → c ∈ M.ord r → M.seats r ≤ (inside M s.hd r).length → d ∈ inside M s.hd r → (M.ord r).idxOf c < (M.ord r).idxOf d →
      (∀ b, b ∈ inside M s.hd r → (M.ord r).idxOf b ≤ (M.ord r).idxOf d) → Step M s c ⟨setF s.nx c (s.nx c + 1), setF (setF s.hd c (some r)) d none⟩
  | refuse (r : R) : (M.pref c)[s.nx c]? = some r → c ∈ M.ord r → M.seats r ≤ (inside M s.hd r).length → (∀ b, b ∈ inside M s.hd r → (M.ord r).idxOf b < (M.ord r).idxOf c) →
      Step M s c ⟨setF s.nx c (s.nx c + 1), s.hd⟩

section
variable {M : Mkt A R} {s s' : St A R} {ts : A → Nat} {T : Nat} {c : A}

theorem refused_keeps (G : Good M) (I : Inv M s ts T) (hc : s.hd c = none) {r : R} (hr : (M.pref c)[s.nx c]? = some r)
    (h2 : likes M c r → (inside M s.hd r).length = M.seats r ∧ ∀ b, b ∈ inside M s.hd r → (M.ord r).idxOf b < (M.ord r).idxOf c) :
    Inv M ⟨setF s.nx c (s.nx c + 1), s.hd⟩ ts T := by
  have hlt : s.nx c < (M.pref c).length := (List.getElem?_eq_some_iff.mp hr).1
  have hix : (M.pref c).idxOf r = s.nx c := idx_at (G.np c) hr
  refine ⟨fun a => ?_, fun a q hq => ?_, fun a q hl hi hn => ?_, I.i3, I.tl, fun a b q q' ha hb hne ht hl hi => ?_⟩
  · by_cases e : a = c
    · subst e
      show setF s.nx a (s.nx a + 1) a ≤ _
      rw [setF_same]
      omega
    · show setF s.nx c (s.nx c + 1) a ≤ _
      rw [setF_ne _ _ e]
      exact I.i0 a
  · have hq' : s.hd a = some q := hq
    have e : a ≠ c := fun e => by rw [e, hc] at hq'; cases hq'
    show likes M a q ∧ _ = setF s.nx c (s.nx c + 1) a
    rw [setF_ne _ _ e]
    exact I.i1 a q hq'
  · have hi : (M.pref a).idxOf q < setF s.nx c (s.nx c + 1) a := hi
    by_cases e : a = c
    · subst e
      rw [setF_same] at hi
      by_cases eq : (M.pref a).idxOf q = s.nx a
      · have er : q = r := idx_inj hl.1 (eq.trans hix.symm)
        subst er
        exact h2 hl
      · exact I.i2 a q hl (by omega) hn
    · rw [setF_ne _ _ e] at hi
      exact I.i2 a q hl hi hn
  · obtain ⟨h, h1, h2, h3, h4, h5⟩ := I.g a b q q' ha hb hne ht hl hi
    refine ⟨h, h1, ?_, h3, h4, h5⟩
    show _ < setF s.nx c (s.nx c + 1) h
    by_cases e : h = c
    · subst e
      rw [setF_same]
      omega
    · rw [setF_ne _ _ e]
      exact h2

theorem length_filter_set (l : List A) (nd : l.Nodup) {p q : A → Bool} {c : A} (hp : p c = false) (hq : q c = true) (hs : ∀ x, x ≠ c → q x = p x) (hc : c ∈ l) :
    (l.filter q).length = (l.filter p).length + 1 := by
  induction l with
  | nil => cases hc
  | cons z l ih =>
    obtain ⟨n1, n2⟩ := List.nodup_cons.mp nd
    by_cases e : z = c
    · subst e
      have e2 : l.filter q = l.filter p := List.filter_congr fun x hx => hs x fun h => n1 (h ▸ hx)
      rw [List.filter_cons, List.filter_cons, if_pos hq, if_neg (by simp [hp]), e2]
      rfl
    · have hc' : c ∈ l := (List.mem_cons.mp hc).resolve_left fun q => e q.symm
      rw [List.filter_cons, List.filter_cons, hs z e]
      by_cases pz : p z = true
      · rw [if_pos pz, if_pos pz, List.length_cons, List.length_cons, ih n2 hc']
      · rw [if_neg pz, if_neg pz, ih n2 hc']

/-- c is taken by r; what is inside elsewhere may have lost somebody -/
theorem taken_keeps (G : Good M) (I : Inv M s ts T) (hc : s.hd c = none) {r : R} (hr : (M.pref c)[s.nx c]? = some r) (ho : c ∈ M.ord r) {hd' : A → Option R}
    (h1 : hd' c = some r) (h2 : ∀ a, a ≠ c → hd' a = s.hd a ∨ (hd' a = none ∧ s.hd a = some r))
    (hlen : (inside M hd' r).length ≤ M.seats r)
    (h3 : ∀ a, likes M a r → (M.pref a).idxOf r < s.nx a → hd' a ≠ some r → (inside M hd' r).length = M.seats r ∧ ∀ b, b ∈ inside M hd' r → (M.ord r).idxOf b < (M.ord r).idxOf a)
    (h4 : ∀ b, likes M b r → (M.pref b).idxOf r < s.nx b → s.hd b ≠ some r → b ≠ c → ∃ h, likes M h r ∧ (M.pref h).idxOf r < s.nx h ∧ hd' h = none ∧ h ≠ c ∧ (M.ord r).idxOf h < (M.ord r).idxOf b) :
    Inv M ⟨setF s.nx c (s.nx c + 1), hd'⟩ (setF ts c T) (T + 1) := by
  have hlt : s.nx c < (M.pref c).length := (List.getElem?_eq_some_iff.mp hr).1
  have hix : (M.pref c).idxOf r = s.nx c := idx_at (G.np c) hr
  have hrm : r ∈ M.pref c := List.mem_of_getElem? hr
  have oth : ∀ q, q ≠ r → inside M hd' q = inside M s.hd q := fun q hq => by
    unfold inside
    refine List.filter_congr fun x _ => ?_
    by_cases e : x = c
    · subst e
      rw [h1, hc]
      have e1 : ¬ (some r = some q) := fun z => hq (Option.some.inj z).symm
      have e2 : ¬ ((none : Option R) = some q) := fun z => by cases z
      rw [decide_eq_false e1, decide_eq_false e2]
    · rcases h2 x e with e1 | ⟨e1, e2⟩
      · rw [e1]
      · rw [e1, e2]
        have e1 : ¬ (some r = some q) := fun z => hq (Option.some.inj z).symm
        have e2 : ¬ ((none : Option R) = some q) := fun z => by cases z
        rw [decide_eq_false e1, decide_eq_false e2]
  have old : ∀ a q, hd' a = some q → a ≠ c → s.hd a = some q := fun a q h e => by
    rcases h2 a e with e1 | ⟨e1, _⟩
    · rw [← e1]; exact h
    · rw [e1] at h; cases h
  refine ⟨fun a => ?_, fun a q hq => ?_, fun a q hl hi hn => ?_, fun q => ?_, fun a => ?_, fun a b q q' ha hb hne ht hl hi => ?_⟩
  · by_cases e : a = c
    · subst e
      show setF s.nx a (s.nx a + 1) a ≤ _
      rw [setF_same]
      omega
    · show setF s.nx c (s.nx c + 1) a ≤ _
      rw [setF_ne _ _ e]
      exact I.i0 a
  · replace hq : hd' a = some q := hq
    show likes M a q ∧ _ = setF s.nx c (s.nx c + 1) a
    by_cases e : a = c
    · subst e
      rw [h1] at hq
      cases hq
      rw [setF_same]
      exact ⟨⟨hrm, ho⟩, by rw [hix]⟩
    · rw [setF_ne _ _ e]
      exact I.i1 a q (old a q hq e)
  · have hi : (M.pref a).idxOf q < setF s.nx c (s.nx c + 1) a := hi
    have hn : hd' a ≠ some q := hn
    show (inside M hd' q).length = M.seats q ∧ ∀ b, b ∈ inside M hd' q → _
    by_cases e : a = c
    · subst e
      rw [setF_same] at hi
      have qr : q ≠ r := fun z => hn (by rw [z]; exact h1)
      have ne : (M.pref a).idxOf q ≠ s.nx a := fun z => qr (idx_inj hl.1 (z.trans hix.symm))
      rw [oth q qr]
      exact I.i2 a q hl (by omega) (by rw [hc]; intro z; cases z)
    · rw [setF_ne _ _ e] at hi
      by_cases qr : q = r
      · subst qr
        exact h3 a hl hi hn
      · rw [oth q qr]
        refine I.i2 a q hl hi fun z => ?_
        rcases h2 a e with e1 | ⟨_, e2⟩
        · exact hn (e1.trans z)
        · rw [e2] at z
          exact qr (Option.some.inj z).symm
  · show (inside M hd' q).length ≤ _
    by_cases qr : q = r
    · subst qr; exact hlen
    · rw [oth q qr]; exact I.i3 q
  · show setF ts c T a < T + 1
    by_cases e : a = c
    · subst e; rw [setF_same]; omega
    · rw [setF_ne _ _ e]; have := I.tl a; omega
  · replace ha : hd' a = some q := ha
    replace hb : hd' b = some q' := hb
    replace ht : setF ts c T b ≤ setF ts c T a := ht
    by_cases ea : a = c
    · subst ea
      rw [h1] at ha
      cases ha
      have eb : b ≠ a := fun z => by
        rw [z, h1] at hb
        exact hne (Option.some.inj hb)
      have sb := old b q' hb eb
      obtain ⟨_, nb⟩ := I.i1 b q' sb
      obtain ⟨h, g1, g2, g3, g4, g5⟩ := h4 b hl (by omega) (fun z => hne (Option.some.inj (z.symm.trans sb))) eb
      refine ⟨h, g1, ?_, ?_, g5, fun r'' z => ?_⟩
      · show _ < setF s.nx a (s.nx a + 1) h
        rw [setF_ne _ _ g4]
        exact g2
      · show hd' h ≠ _
        rw [g3]; intro z; cases z
      · have z : hd' h = some r'' := z
        rw [g3] at z
        cases z
    · have sa := old a q ha ea
      by_cases eb : b = c
      · subst eb
        rw [setF_same, setF_ne _ _ ea] at ht
        have := I.tl a
        omega
      · rw [setF_ne _ _ ea, setF_ne _ _ eb] at ht
        obtain ⟨h, g1, g2, g3, g4, g5⟩ := I.g a b q q' sa (old b q' hb eb) hne ht hl hi
        refine ⟨h, g1, ?_, ?_, g4, fun r'' z => ?_⟩
        · show _ < setF s.nx c (s.nx c + 1) h
          by_cases eh : h = c
          · subst eh; rw [setF_same]; omega
          · rw [setF_ne _ _ eh]; exact g2
        · show hd' h ≠ _
          by_cases eh : h = c
          · subst eh
            rw [h1]
            intro z
            have z := Option.some.inj z
            subst z
            omega
          · intro z
            exact g3 (old h q z eh)
        · have z : hd' h = some r'' := z
          show setF ts c T a < setF ts c T h
          rw [setF_ne _ _ ea]
          by_cases eh : h = c
          · subst eh; rw [setF_same]; exact I.tl a
          · rw [setF_ne _ _ eh]
            exact g5 r'' (old h r'' z eh)

theorem step_keeps (G : Good M) (I : Inv M s ts T) (hc : s.hd c = none) (h : Step M s c s') : ∃ ts' T', Inv M s' ts' T' := by
  cases h with
  | no r hr hn => exact ⟨ts, T, refused_keeps G I hc hr fun hl => absurd hl.2 hn⟩
  | refuse r hr ho hf hb => exact ⟨ts, T, refused_keeps G I hc hr fun _ => ⟨Nat.le_antisymm (I.i3 r) hf, hb⟩⟩
  | free r hr ho hf =>
    have cN : ¬ (s.hd c = some r) := by rw [hc]; intro z; cases z
    have hl : (inside M (setF s.hd c (some r)) r).length = (inside M s.hd r).length + 1 := by
      unfold inside
      refine length_filter_set _ (G.no r) (decide_eq_false cN) ?_ (fun x hx => ?_) ho
      · rw [setF_same]; exact decide_eq_true rfl
      · rw [setF_ne _ _ hx]
    refine ⟨_, _, taken_keeps G I hc hr ho (setF_same _ _ _) (fun a e => .inl (setF_ne _ _ e)) (by omega) (fun a ha hi hn => ?_) fun b hb hi hn eb => ?_⟩
    · have e : a ≠ c := fun e => by rw [e, setF_same] at hn; exact hn rfl
      rw [setF_ne _ _ e] at hn
      have := (I.i2 a r ha hi hn).1
      omega
    · have := (I.i2 b r hb hi hn).1
      omega
  | full r d hr ho hf hd hcd hw =>
    obtain ⟨d1, d2⟩ := mem_inside.mp hd
    have cN : ¬ (s.hd c = some r) := by rw [hc]; intro z; cases z
    have ecd : c ≠ d := fun e => by rw [e] at cN; exact cN d2
    have edc : d ≠ c := fun e => ecd e.symm
    have full := Nat.le_antisymm (I.i3 r) hf
    have hl1 : (inside M (setF s.hd c (some r)) r).length = (inside M s.hd r).length + 1 := by
      unfold inside
      refine length_filter_set _ (G.no r) (decide_eq_false cN) ?_ (fun x hx => ?_) ho
      · rw [setF_same]; exact decide_eq_true rfl
      · rw [setF_ne _ _ hx]
    have hl2 : (inside M (setF s.hd c (some r)) r).length = (inside M (setF (setF s.hd c (some r)) d none) r).length + 1 := by
      unfold inside
      refine length_filter_set _ (G.no r) ?_ ?_ (fun x hx => ?_) d1
      · rw [setF_same]; exact decide_eq_false fun z => by cases z
      · rw [setF_ne _ _ edc]; exact decide_eq_true d2
      · rw [setF_ne _ _ hx]
    have hlen : (inside M (setF (setF s.hd c (some r)) d none) r).length = M.seats r := by omega
    have hin : ∀ b, b ∈ inside M (setF (setF s.hd c (some r)) d none) r → b = c ∨ (b ≠ d ∧ b ∈ inside M s.hd r) := fun b hb => by
      obtain ⟨b1, b2⟩ := mem_inside.mp hb
      by_cases e1 : b = d
      · rw [e1, setF_same] at b2; cases b2
      · rw [setF_ne _ _ e1] at b2
        by_cases e2 : b = c
        · exact .inl e2
        · rw [setF_ne _ _ e2] at b2
          exact .inr ⟨e1, mem_inside.mpr ⟨b1, b2⟩⟩
    refine ⟨_, _, taken_keeps G I hc hr ho (by rw [setF_ne _ _ ecd, setF_same]) (fun a e => ?_) (Nat.le_of_eq hlen) (fun a ha hi hn => ⟨hlen, fun b hb => ?_⟩) fun b hb hi hn eb => ?_⟩
    · by_cases e1 : a = d
      · subst e1; exact .inr ⟨setF_same _ _ _, d2⟩
      · exact .inl (by rw [setF_ne _ _ e1, setF_ne _ _ e])
    · by_cases ea : a = d
      · subst ea
        rcases hin b hb with rfl | ⟨e1, e2⟩
        · exact hcd
        · have := hw b e2
          have ne : (M.ord r).idxOf b ≠ (M.ord r).idxOf a := fun z => e1 (idx_inj (mem_inside.mp e2).1 z)
          omega
      · have ec : a ≠ c := fun e => by
          rw [e, setF_ne _ _ ecd, setF_same] at hn
          exact hn rfl
        rw [setF_ne _ _ ea, setF_ne _ _ ec] at hn
        have z := (I.i2 a r ha hi hn).2
        rcases hin b hb with rfl | ⟨e1, e2⟩
        · have := z d hd
          omega
        · exact z b e2
    · have z := (I.i2 b r hb hi hn).2 d hd
      obtain ⟨ld, nd⟩ := I.i1 d r d2
      exact ⟨d, ld, by omega, setF_same _ _ _, edc, z⟩
end

/-! ### stable -/
structure Stable (M : Mkt A R) (mu : A → Option R) : Prop where
  s1 : ∀ a r, mu a = some r → likes M a r
  s2 : ∀ r, (inside M mu r).length ≤ M.seats r
  s3 : ∀ a r, likes M a r → (M.pref a).idxOf r < rk M a (mu a) → (inside M mu r).length = M.seats r ∧ ∀ b, b ∈ inside M mu r → (M.ord r).idxOf b < (M.ord r).idxOf a

structure Final (M : Mkt A R) (s : St A R) : Prop where
  inv : ∃ ts T, Inv M s ts T
  fin : ∀ a, s.hd a = none → (M.pref a).length ≤ s.nx a

theorem Final.lt {M : Mkt A R} {s : St A R} (F : Final M s) {a : A} {r : R} (h : r ∈ M.pref a) (hr : (M.pref a).idxOf r < rk M a (s.hd a)) : (M.pref a).idxOf r < s.nx a ∧ s.hd a ≠ some r := by
  obtain ⟨ts, T, I⟩ := F.inv
  cases e : s.hd a with
  | none => exact ⟨Nat.lt_of_lt_of_le (idx_lt h) (F.fin a e), fun z => by cases z⟩
  | some q =>
    rw [e] at hr
    have hr : (M.pref a).idxOf r < (M.pref a).idxOf q := hr
    obtain ⟨_, n⟩ := I.i1 a q e
    refine ⟨by omega, fun z => ?_⟩
    cases z
    omega
theorem Final.stable {M : Mkt A R} {s : St A R} (F : Final M s) : Stable M s.hd := by
  obtain ⟨ts, T, I⟩ := F.inv
  refine ⟨fun a r h => (I.i1 a r h).1, I.i3, fun a r hl hr => ?_⟩
  obtain ⟨h1, h2⟩ := F.lt hl.1 hr
  exact I.i2 a r hl h1 h2

/-! ### no lie helps -/
theorem countP_eq_of {α : Type} [DecidableEq α] {l1 l2 : List α} (n1 : l1.Nodup) (n2 : l2.Nodup) {p : α → Bool} (h1 : ∀ x, p x = true → x ∈ l1) (h2 : ∀ x, p x = true → x ∈ l2) :
    (l1.filter p).length = (l2.filter p).length := by
  have hp : (l1.filter p).Perm (l2.filter p) := by
    refine (List.perm_ext_iff_of_nodup (n1.filter p) (n2.filter p)).mpr fun x => ?_
    rw [List.mem_filter, List.mem_filter]
    exact ⟨fun h => ⟨h2 x h.2, h.2⟩, fun h => ⟨h1 x h.2, h.2⟩⟩
  exact hp.length_eq
theorem filter_split {α : Type} (l : List α) (p q : α → Bool) : (l.filter p).length = (l.filter fun x => p x && q x).length + (l.filter fun x => p x && !q x).length := by
  induction l with
  | nil => rfl
  | cons z l ih =>
    rw [List.filter_cons, List.filter_cons, List.filter_cons]
    cases p z <;> cases q z <;> simp [ih] <;> omega
theorem filter_le {α : Type} (l : List α) {p q : α → Bool} (h : ∀ x, x ∈ l → p x = true → q x = true) : (l.filter p).length ≤ (l.filter q).length := by
  induction l with
  | nil => exact Nat.le_refl _
  | cons z l ih =>
    have ih := ih fun x hx => h x (List.mem_cons_of_mem _ hx)
    have hz := h z (List.mem_cons_self ..)
    rw [List.filter_cons, List.filter_cons]
    by_cases pz : p z = true
    · rw [if_pos pz, if_pos (hz pz), List.length_cons, List.length_cons]; omega
    · rw [if_neg pz]
      by_cases qz : q z = true
      · rw [if_pos qz, List.length_cons]; omega
      · rw [if_neg qz]; exact ih
theorem filter_full {α : Type} (l : List α) {p q : α → Bool} (h : ∀ x, x ∈ l → p x = true → q x = true) (hl : (l.filter q).length ≤ (l.filter p).length) : ∀ x, x ∈ l → q x = true → p x = true := by
  induction l with
  | nil => intro x hx; cases hx
  | cons z l ih =>
    have h' := fun x hx => h x (List.mem_cons_of_mem _ hx)
    have hz := h z (List.mem_cons_self ..)
    have le := filter_le l h'
    rw [List.filter_cons, List.filter_cons] at hl
    intro x hx qx
    by_cases pz : p z = true
    · rw [if_pos pz, if_pos (hz pz), List.length_cons, List.length_cons] at hl
      rcases List.mem_cons.mp hx with e | e
      · rw [e]; exact pz
      · exact ih h' (by omega) x e qx
    · rw [if_neg pz] at hl
      by_cases qz : q z = true
      · rw [if_pos qz, List.length_cons] at hl
        omega
      · rw [if_neg qz] at hl
        rcases List.mem_cons.mp hx with e | e
        · rw [e] at qx; exact absurd qx qz
        · exact ih h' hl x e qx
/-- the sum over rooms -/
theorem sum_rooms (As : List A) (w : A → Bool) (f g : A → Option R) : ∀ (Rs : List R), Rs.Nodup →
    (∀ r, r ∈ Rs → (As.filter fun a => w a && decide (f a = some r)).length ≤ (As.filter fun a => w a && decide (g a = some r)).length) →
    (As.filter fun a => w a && Rs.any fun r => decide (f a = some r)).length ≤ (As.filter fun a => w a && Rs.any fun r => decide (g a = some r)).length
  | [], _, _ => by simp
  | r :: Rs, nd, h => by
    obtain ⟨n1, n2⟩ := List.nodup_cons.mp nd
    have ih := sum_rooms As w f g Rs n2 fun q hq => h q (List.mem_cons_of_mem _ hq)
    have hr := h r (List.mem_cons_self ..)
    have key : ∀ k : A → Option R, (As.filter fun a => w a && (r :: Rs).any fun r => decide (k a = some r)).length
        = (As.filter fun a => w a && decide (k a = some r)).length + (As.filter fun a => w a && Rs.any fun r => decide (k a = some r)).length := fun k => by
      rw [filter_split As (fun a => w a && (r :: Rs).any fun r => decide (k a = some r)) fun a => decide (k a = some r)]
      congr 2
      · refine List.filter_congr fun a _ => ?_
        rw [List.any_cons]
        cases w a <;> cases decide (k a = some r) <;> simp
      · refine List.filter_congr fun a _ => ?_
        rw [List.any_cons]
        by_cases e : k a = some r
        · have e2 : (Rs.any fun r => decide (k a = some r)) = false := by
            rw [List.any_eq_false]
            intro q hq z
            rw [e] at z
            have z := of_decide_eq_true z
            exact n1 (by rw [Option.some.inj z]; exact hq)
          rw [e2]
          simp [e]
        · simp [e]
    rw [key f, key g]
    omega
theorem max_of {α : Type} (f : α → Nat) : ∀ (l : List α), l ≠ [] → ∃ m, m ∈ l ∧ ∀ x, x ∈ l → f x ≤ f m
  | [], h => absurd rfl h
  | [z], _ => ⟨z, List.mem_singleton.mpr rfl, fun x hx => by rw [List.mem_singleton.mp hx]; exact Nat.le_refl _⟩
  | z :: y :: l, _ => by
    obtain ⟨m, hm, hx⟩ := max_of f (y :: l) (by simp)
    by_cases h : f z ≤ f m
    · refine ⟨m, List.mem_cons_of_mem _ hm, fun x h' => ?_⟩
      rcases List.mem_cons.mp h' with e | e
      · rw [e]; exact h
      · exact hx x e
    · refine ⟨z, List.mem_cons_self .., fun x h' => ?_⟩
      rcases List.mem_cons.mp h' with e | e
      · rw [e]; exact Nat.le_refl _
      · have := hx x e; omega

def dd {α : Type} [DecidableEq α] : List α → List α
  | [] => []
  | z :: l => if z ∈ dd l then dd l else z :: dd l
theorem mem_dd {α : Type} [DecidableEq α] {x : α} : ∀ {l : List α}, x ∈ dd l ↔ x ∈ l
  | [] => Iff.rfl
  | z :: l => by
    have ih := mem_dd (x := x) (l := l)
    show x ∈ (if z ∈ dd l then dd l else z :: dd l) ↔ _
    by_cases h : z ∈ dd l
    · rw [if_pos h, ih, List.mem_cons]
      refine ⟨.inr, fun h' => h'.elim (fun e => ?_) id⟩
      rw [e, ← mem_dd (l := l)]
      exact h
    · rw [if_neg h, List.mem_cons, List.mem_cons, ih]
theorem nodup_dd {α : Type} [DecidableEq α] : ∀ (l : List α), (dd l).Nodup
  | [] => List.nodup_nil
  | z :: l => by
    show (if z ∈ dd l then dd l else z :: dd l).Nodup
    by_cases h : z ∈ dd l
    · rw [if_pos h]; exact nodup_dd l
    · rw [if_neg h]; exact List.nodup_cons.mpr ⟨h, nodup_dd l⟩

theorem no_lie {M M' : Mkt A R} {s : St A R} {mu : A → Option R} (G : Good M) (F : Final M s) (S : Stable M' mu) (ho : M'.ord = M.ord) (hs : M'.seats = M.seats)
    (As : List A) (nA : As.Nodup) (hA : ∀ a, M.pref a ≠ [] → a ∈ As)
    (hp : ∀ a, ¬ rk M a (mu a) < rk M a (s.hd a) → M'.pref a = M.pref a) : ∀ a, ¬ rk M a (mu a) < rk M a (s.hd a) := by
  intro a0 hw0
  obtain ⟨ts, T, I⟩ := F.inv
  -- who gets better
  have rkle : ∀ a x, rk M a x ≤ (M.pref a).length := fun a x => by
    cases x with
    | none => exact Nat.le_refl _
    | some r => exact idx_le
  have W : ∀ a, rk M a (mu a) < rk M a (s.hd a) → ∃ r, mu a = some r ∧ likes M a r ∧ s.hd a ≠ some r ∧ (M.pref a).idxOf r < s.nx a ∧ a ∈ As := fun a h => by
    cases e : mu a with
    | none =>
      rw [e] at h
      have h : (M.pref a).length < rk M a (s.hd a) := h
      have := rkle a (s.hd a)
      omega
    | some r =>
      rw [e] at h
      have h : (M.pref a).idxOf r < rk M a (s.hd a) := h
      have hm : r ∈ M.pref a := idx_mem (Nat.lt_of_lt_of_le h (rkle a _))
      obtain ⟨h1, h2⟩ := F.lt hm h
      refine ⟨r, rfl, ⟨hm, ?_⟩, h2, h1, hA a fun z => by rw [z] at hm; cases hm⟩
      have := (S.s1 a r e).2
      rw [ho] at this
      exact this
  -- one who doesn't get better
  have stay : ∀ a r, likes M a r → (M.pref a).idxOf r < rk M a (s.hd a) ∨ s.hd a = some r → ¬ rk M a (mu a) < rk M a (s.hd a) → mu a ≠ some r →
      ∀ b, mu b = some r → (M.ord r).idxOf b < (M.ord r).idxOf a := fun a r hl h1 h2 h3 b hb => by
    have ep := hp a h2
    have hl' : likes M' a r := ⟨by rw [ep]; exact hl.1, by rw [ho]; exact hl.2⟩
    have hlt : (M'.pref a).idxOf r < rk M' a (mu a) := by
      have e : rk M' a (mu a) = rk M a (mu a) := by
        cases mu a with
        | none => show (M'.pref a).length = _; rw [ep]; rfl
        | some q => show (M'.pref a).idxOf q = _; rw [ep]; rfl
      rw [e, ep]
      rcases h1 with h1 | h1
      · omega
      · rw [h1] at h2
        have h2 : ¬ rk M a (mu a) < (M.pref a).idxOf r := h2
        have ne : (M.pref a).idxOf r ≠ rk M a (mu a) := fun z => by
          cases e2 : mu a with
          | none =>
            rw [e2] at z
            have z : (M.pref a).idxOf r = (M.pref a).length := z
            have := idx_lt hl.1
            omega
          | some q =>
            rw [e2] at z
            exact h3 (by rw [e2, idx_inj hl.1 z])
        omega
    have z := (S.s3 a r hl' hlt).2 b (mem_inside.mpr ⟨(S.s1 b r hb).2, hb⟩)
    rw [ho] at z
    exact z
  let w : A → Bool := fun a => decide (rk M a (mu a) < rk M a (s.hd a))
  let Rs : List R := dd ((As.filter w).filterMap mu)
  have mRs : ∀ r, r ∈ Rs ↔ ∃ a, rk M a (mu a) < rk M a (s.hd a) ∧ mu a = some r := fun r => by
    show r ∈ dd ((As.filter w).filterMap mu) ↔ _
    rw [mem_dd, List.mem_filterMap]
    constructor
    · rintro ⟨a, ha, e⟩
      exact ⟨a, of_decide_eq_true (List.mem_filter.mp ha).2, e⟩
    · rintro ⟨a, ha, e⟩
      obtain ⟨_, _, _, _, _, hm⟩ := W a ha
      exact ⟨a, List.mem_filter.mpr ⟨hm, decide_eq_true ha⟩, e⟩
  -- nobody else gives way in such a room
  have case2 : ∀ r m a, rk M m (mu m) < rk M m (s.hd m) → mu m = some r → s.hd a = some r → ¬ rk M a (mu a) < rk M a (s.hd a) → mu a = some r := fun r m a hm em ea hna => by
    by_cases e : mu a = some r
    · exact e
    · exfalso
      obtain ⟨la, _⟩ := I.i1 a r ea
      have z1 := stay a r la (.inr ea) hna e m em
      obtain ⟨r', e', lm, hn, hx, _⟩ := W m hm
      rw [em] at e'
      cases e'
      have z2 := (I.i2 m r lm hx hn).2 a (mem_inside.mpr ⟨la.2, ea⟩)
      omega
  have per : ∀ r, r ∈ Rs → (As.filter fun a => w a && decide (mu a = some r)).length ≤ (As.filter fun a => w a && decide (s.hd a = some r)).length := fun r hr => by
    obtain ⟨m, hm, em⟩ := (mRs r).mp hr
    obtain ⟨r', e', lm, hn, hx, _⟩ := W m hm
    rw [em] at e'
    cases e'
    have full := (I.i2 m r lm hx hn).1
    have cap := S.s2 r
    rw [hs] at cap
    have e1 : (As.filter fun a => w a && decide (mu a = some r)).length = ((M.ord r).filter fun a => w a && decide (mu a = some r)).length := by
      refine countP_eq_of nA (G.no r) (fun x hx => ?_) fun x hx => ?_
      · rw [Bool.and_eq_true] at hx
        obtain ⟨_, _, _, _, _, q⟩ := W x (of_decide_eq_true hx.1)
        exact q
      · rw [Bool.and_eq_true] at hx
        have := (S.s1 x r (of_decide_eq_true hx.2)).2
        rw [ho] at this
        exact this
    have e2 : (As.filter fun a => w a && decide (s.hd a = some r)).length = ((M.ord r).filter fun a => w a && decide (s.hd a = some r)).length := by
      refine countP_eq_of nA (G.no r) (fun x hx => ?_) fun x hx => ?_
      · rw [Bool.and_eq_true] at hx
        obtain ⟨_, _, _, _, _, q⟩ := W x (of_decide_eq_true hx.1)
        exact q
      · rw [Bool.and_eq_true] at hx
        exact (I.i1 x r (of_decide_eq_true hx.2)).1.2
    rw [e1, e2]
    have f1 : (inside M s.hd r).length = ((M.ord r).filter fun a => decide (s.hd a = some r) && w a).length + ((M.ord r).filter fun a => decide (s.hd a = some r) && !w a).length := filter_split _ _ _
    have f2 : (inside M' mu r).length = ((M.ord r).filter fun a => decide (mu a = some r) && w a).length + ((M.ord r).filter fun a => decide (mu a = some r) && !w a).length := by
      have := filter_split (M'.ord r) (fun a => decide (mu a = some r)) w
      rw [ho] at this
      unfold inside
      rw [ho]
      exact this
    have f3 : ((M.ord r).filter fun a => decide (s.hd a = some r) && !w a).length ≤ ((M.ord r).filter fun a => decide (mu a = some r) && !w a).length := by
      refine filter_le _ fun x _ hx => ?_
      rw [Bool.and_eq_true] at hx ⊢
      refine ⟨decide_eq_true (case2 r m x hm em (of_decide_eq_true hx.1) fun z => ?_), hx.2⟩
      have : w x = true := decide_eq_true z
      rw [this] at hx
      cases hx.2
    have c1 : ((M.ord r).filter fun a => w a && decide (mu a = some r)) = ((M.ord r).filter fun a => decide (mu a = some r) && w a) := List.filter_congr fun _ _ => Bool.and_comm ..
    have c2 : ((M.ord r).filter fun a => w a && decide (s.hd a = some r)) = ((M.ord r).filter fun a => decide (s.hd a = some r) && w a) := List.filter_congr fun _ _ => Bool.and_comm ..
    rw [c1, c2]
    omega
  have tot := sum_rooms As w mu s.hd Rs (nodup_dd _) per
  have ful := filter_full As (p := fun a => w a && Rs.any fun r => decide (s.hd a = some r)) (q := w) (fun x _ h => (Bool.and_eq_true _ _ ▸ h).1) (by
    refine Nat.le_trans (Nat.le_of_eq ?_) tot
    congr 1
    refine List.filter_congr fun a ha => ?_
    cases e : w a with
    | false => rfl
    | true =>
      obtain ⟨r, er, _⟩ := W a (of_decide_eq_true e)
      rw [Bool.true_and]
      symm
      rw [List.any_eq_true]
      exact ⟨r, (mRs r).mpr ⟨a, of_decide_eq_true e, er⟩, decide_eq_true er⟩)
  have all : ∀ a, rk M a (mu a) < rk M a (s.hd a) → ∃ r, r ∈ Rs ∧ s.hd a = some r := fun a ha => by
    obtain ⟨_, _, _, _, _, hm⟩ := W a ha
    have z := ful a hm (decide_eq_true ha)
    rw [Bool.and_eq_true, List.any_eq_true] at z
    obtain ⟨_, r, hr, er⟩ := z
    exact ⟨r, hr, of_decide_eq_true er⟩
  -- the last of them
  have ne : As.filter w ≠ [] := fun z => by
    obtain ⟨_, _, _, _, _, hm⟩ := W a0 hw0
    have : a0 ∈ As.filter w := List.mem_filter.mpr ⟨hm, decide_eq_true hw0⟩
    rw [z] at this
    cases this
  obtain ⟨m, hm, hmax⟩ := max_of ts _ ne
  have wm : rk M m (mu m) < rk M m (s.hd m) := of_decide_eq_true (List.mem_filter.mp hm).2
  have top : ∀ x, rk M x (mu x) < rk M x (s.hd x) → ts x ≤ ts m := fun x hx => by
    obtain ⟨_, _, _, _, _, q⟩ := W x hx
    exact hmax x (List.mem_filter.mpr ⟨q, decide_eq_true hx⟩)
  obtain ⟨r, hr, er⟩ := all m wm
  obtain ⟨k, wk, ek⟩ := (mRs r).mp hr
  obtain ⟨r1, er1, lk, nk, xk, _⟩ := W k wk
  rw [ek] at er1
  cases er1
  obtain ⟨r', _, er'⟩ := all k wk
  have nrr : r ≠ r' := fun z => nk (by rw [z]; exact er')
  have lt : (M.pref k).idxOf r < (M.pref k).idxOf r' := by
    have := wk
    rw [ek, er'] at this
    exact this
  obtain ⟨h, lh, xh, nh, bh, th⟩ := I.g m k r r' er er' nrr (top k wk) lk lt
  have nwh : ¬ rk M h (mu h) < rk M h (s.hd h) := fun z => by
    obtain ⟨q, _, eq⟩ := all h z
    have := th q eq
    have := top h z
    omega
  have rh : (M.pref h).idxOf r < rk M h (s.hd h) := by
    cases e : s.hd h with
    | none => exact idx_lt lh.1
    | some q =>
      obtain ⟨_, n⟩ := I.i1 h q e
      have : (M.pref h).idxOf r ≠ (M.pref h).idxOf q := fun z => nh (by rw [e, idx_inj lh.1 z])
      show _ < (M.pref h).idxOf q
      omega
  have nmu : mu h ≠ some r := fun z => by
    rw [z] at nwh
    exact nwh rh
  have := stay h r lh (.inl rh) nwh nmu k ek
  omega

theorem best {M : Mkt A R} {s : St A R} {mu : A → Option R} (G : Good M) (F : Final M s) (S : Stable M mu) (As : List A) (nA : As.Nodup) (hA : ∀ a, M.pref a ≠ [] → a ∈ As) (a : A) : rk M a (s.hd a) ≤ rk M a (mu a) := by
  have := no_lie G F S rfl rfl As nA hA (fun _ _ => rfl) a
  omega
theorem unique {M : Mkt A R} {s s' : St A R} (G : Good M) (F : Final M s) (F' : Final M s') (As : List A) (nA : As.Nodup) (hA : ∀ a, M.pref a ≠ [] → a ∈ As) (a : A) : s.hd a = s'.hd a := by
  have h1 := best G F F'.stable As nA hA a
  have h2 := best G F' F.stable As nA hA a
  have st := F.stable
  have st' := F'.stable
  cases e : s.hd a with
  | none =>
    cases e' : s'.hd a with
    | none => rfl
    | some r =>
      rw [e, e'] at h1
      have h1 : (M.pref a).length ≤ (M.pref a).idxOf r := h1
      have := idx_lt (st'.s1 a r e').1
      omega
  | some q =>
    cases e' : s'.hd a with
    | none =>
      rw [e, e'] at h2
      have h2 : (M.pref a).length ≤ (M.pref a).idxOf q := h2
      have := idx_lt (st.s1 a q e).1
      omega
    | some r =>
      rw [e, e'] at h1 h2
      have h1 : (M.pref a).idxOf q ≤ (M.pref a).idxOf r := h1
      have h2 : (M.pref a).idxOf r ≤ (M.pref a).idxOf q := h2
      rw [idx_inj (st.s1 a q e).1 (Nat.le_antisymm h1 h2)]

/-! ### how a market that is kept up changes -/
theorem Inv.start (M : Mkt A R) : Inv M ⟨fun _ => 0, fun _ => none⟩ (fun _ => 0) 1 where
  i0 := fun _ => Nat.zero_le _
  i1 := fun _ _ h => by cases h
  i2 := fun _ _ _ h => absurd h (Nat.not_lt_zero _)
  i3 := fun r => by
    have e : inside M (fun _ => (none : Option R)) r = [] := by
      unfold inside
      rw [List.filter_eq_nil_iff]
      intro a _ z
      cases of_decide_eq_true z
    show (inside M (fun _ => (none : Option R)) r).length ≤ _
    rw [e]
    exact Nat.zero_le _
  tl := fun _ => Nat.zero_lt_one
  g := fun _ _ _ _ h => by cases h

/-- those of Z ask anew -/
def anew (Z : A → Bool) (s : St A R) : St A R := ⟨fun a => if Z a = true then 0 else s.nx a, fun a => if Z a = true then none else s.hd a⟩
theorem anew_in {Z : A → Bool} {s : St A R} {a : A} (h : Z a = true) : (anew Z s).nx a = 0 ∧ (anew Z s).hd a = none := ⟨if_pos h, if_pos h⟩
theorem anew_out {Z : A → Bool} {s : St A R} {a : A} (h : ¬ Z a = true) : (anew Z s).nx a = s.nx a ∧ (anew Z s).hd a = s.hd a := ⟨if_neg h, if_neg h⟩

theorem Inv.reset {M M' : Mkt A R} {s : St A R} {ts : A → Nat} {T : Nat} {Z : A → Bool} (I : Inv M s ts T)
    (hp : ∀ a, ¬ Z a = true → M'.pref a = M.pref a) (hl : ∀ a r, ¬ Z a = true → (likes M' a r ↔ likes M a r))
    (hr : ∀ a r, ¬ Z a = true → likes M a r → M'.ord r = M.ord r ∧ M'.seats r = M.seats r)
    (hc : ∀ a b r, ¬ Z a = true → likes M a r → likes M b r → ¬ Z b = true) : Inv M' (anew Z s) ts T := by
  have was : ∀ a r, (anew Z s).hd a = some r → ¬ Z a = true ∧ s.hd a = some r := fun a r h => by
    by_cases z : Z a = true
    · rw [(anew_in z).2] at h; cases h
    · rw [(anew_out z).2] at h; exact ⟨z, h⟩
  have ins : ∀ a r, ¬ Z a = true → likes M a r → inside M' (anew Z s).hd r = inside M s.hd r := fun a r z l => by
    unfold inside
    rw [(hr a r z l).1]
    refine List.filter_congr fun b _ => decide_eq_decide.mpr ⟨fun h => (was b r h).2, fun h => ?_⟩
    rw [(anew_out (hc a b r z l (I.i1 b r h).1)).2]
    exact h
  refine ⟨fun a => ?_, fun a r h => ?_, fun a r l hi hn => ?_, fun r => ?_, I.tl, fun a b r r' ha hb hne ht l hi => ?_⟩
  · by_cases z : Z a = true
    · rw [(anew_in z).1]; exact Nat.zero_le _
    · rw [(anew_out z).1, hp a z]; exact I.i0 a
  · obtain ⟨z, h⟩ := was a r h
    obtain ⟨l, n⟩ := I.i1 a r h
    rw [(anew_out z).1, hp a z]
    exact ⟨(hl a r z).mpr l, n⟩
  · by_cases z : Z a = true
    · rw [(anew_in z).1] at hi; exact absurd hi (Nat.not_lt_zero _)
    · rw [(anew_out z).1, hp a z] at hi
      rw [(anew_out z).2] at hn
      have l := (hl a r z).mp l
      obtain ⟨e1, e2⟩ := hr a r z l
      rw [ins a r z l, e1, e2]
      exact I.i2 a r l hi hn
  · cases e : inside M' (anew Z s).hd r with
    | nil => exact Nat.zero_le _
    | cons a k =>
      obtain ⟨_, h⟩ := mem_inside.mp (show a ∈ inside M' (anew Z s).hd r by rw [e]; exact List.mem_cons_self ..)
      obtain ⟨z, h⟩ := was a r h
      have l := (I.i1 a r h).1
      rw [← e, ins a r z l, (hr a r z l).2]
      exact I.i3 r
  · obtain ⟨za, ha⟩ := was a r ha
    obtain ⟨zb, hb⟩ := was b r' hb
    have la := (I.i1 a r ha).1
    rw [hp b zb] at hi
    obtain ⟨h, g1, g2, g3, g4, g5⟩ := I.g a b r r' ha hb hne ht ((hl b r zb).mp l) hi
    have zh := hc a h r za la g1
    refine ⟨h, (hl h r zh).mpr g1, ?_, ?_, ?_, ?_⟩
    · rw [(anew_out zh).1, hp h zh]; exact g2
    · rw [(anew_out zh).2]; exact g3
    · rw [(hr a r za la).1]; exact g4
    · rw [(anew_out zh).2]; exact g5

def Closed (M : Mkt A R) (Z : A → Bool) (Y : R → Prop) : Prop := ∀ a r, likes M a r → (Z a = true ↔ Y r)

theorem Inv.reset2 {M M' : Mkt A R} {s : St A R} {ts : A → Nat} {T : Nat} {Z1 Z2 : A → Bool} {Y1 Y2 : R → Prop} (I : Inv M s ts T)
    (C1 : Closed M Z1 Y1) (C2 : Closed M' Z2 Y2) (d1 : ∀ a, ¬ Z1 a = true → M'.pref a = M.pref a)
    (d2 : ∀ r, ¬ Y1 r ∨ ¬ Y2 r → M'.ord r = M.ord r ∧ M'.seats r = M.seats r) : Inv M' (anew (fun a => Z1 a || Z2 a) s) ts T := by
  have sp : ∀ a, ¬ (Z1 a || Z2 a) = true → ¬ Z1 a = true ∧ ¬ Z2 a = true := fun a h => ⟨fun z => h (by rw [z]; rfl), fun z => h (by rw [z]; simp)⟩
  refine I.reset (fun a h => d1 a (sp a h).1) (fun a r h => ⟨fun l => ?_, fun l => ?_⟩) (fun a r h l => d2 r (.inl fun y => (sp a h).1 ((C1 a r l).mpr y))) fun a b r h la lb zb => ?_
  · have n2 : ¬ Y2 r := fun y => (sp a h).2 ((C2 a r l).mpr y)
    unfold likes at l ⊢
    rw [d1 a (sp a h).1, (d2 r (.inr n2)).1] at l
    exact l
  · have n1 : ¬ Y1 r := fun y => (sp a h).1 ((C1 a r l).mpr y)
    unfold likes at l ⊢
    rw [d1 a (sp a h).1, (d2 r (.inl n1)).1]
    exact l
  · have n1 : ¬ Y1 r := fun y => (sp a h).1 ((C1 a r la).mpr y)
    have zb1 : ¬ Z1 b = true := fun z => n1 ((C1 b r lb).mp z)
    have eo := (d2 r (.inl n1)).1
    have la' : likes M' a r := ⟨by rw [d1 a (sp a h).1]; exact la.1, by rw [eo]; exact la.2⟩
    have lb' : likes M' b r := ⟨by rw [d1 b zb1]; exact lb.1, by rw [eo]; exact lb.2⟩
    have n2 : ¬ Y2 r := fun y => (sp a h).2 ((C2 a r la').mpr y)
    have zb2 : ¬ Z2 b = true := fun z => n2 ((C2 b r lb').mp z)
    cases e1 : Z1 b <;> cases e2 : Z2 b <;> simp_all

theorem idx_take {α : Type} [DecidableEq α] {x : α} : ∀ {n : Nat} {l k : List α}, l.take n = k.take n → l.idxOf x < n → l.idxOf x < l.length → k.idxOf x = l.idxOf x
  | 0, _, _, _, h, _ => absurd h (Nat.not_lt_zero _)
  | n + 1, [], _, _, _, h => absurd h (by simp)
  | n + 1, z :: l, [], e, _, _ => by simp at e
  | n + 1, z :: l, y :: k, e, h, h2 => by
    have e1 : z = y ∧ l.take n = k.take n := by simpa using e
    obtain ⟨rfl, e1⟩ := e1
    rw [List.idxOf_cons] at h h2 ⊢
    rw [List.idxOf_cons]
    by_cases q : z = x
    · have q : (z == x) = true := by simp [q]
      rw [q]
      rfl
    · have q : (z == x) = false := by simp [q]
      rw [q] at h h2 ⊢
      simp at h h2 ⊢
      exact idx_take e1 h h2

/-- the asker c, who holds something, tells another list that is the same up to that -/
theorem Inv.relist {M M' : Mkt A R} {s : St A R} {ts : A → Nat} {T : Nat} {c : A} (I : Inv M s ts T) (hc : s.hd c ≠ none)
    (hp : ∀ a, a ≠ c → M'.pref a = M.pref a) (ho : M'.ord = M.ord) (hs : M'.seats = M.seats) (ht : (M'.pref c).take (s.nx c) = (M.pref c).take (s.nx c)) : Inv M' s ts T := by
  have len : s.nx c ≤ (M'.pref c).length := by
    have h1 := I.i0 c
    have h2 := congrArg List.length ht
    rw [List.length_take, List.length_take] at h2
    omega
  have to : ∀ a r, r ∈ M.pref a → (M.pref a).idxOf r < s.nx a → (M'.pref a).idxOf r = (M.pref a).idxOf r ∧ r ∈ M'.pref a := fun a r hm h => by
    by_cases e : a = c
    · subst e
      have z := idx_take ht.symm h (idx_lt hm)
      exact ⟨z, idx_mem (by omega)⟩
    · rw [hp a e]; exact ⟨rfl, hm⟩
  have fro : ∀ a r, r ∈ M'.pref a → (M'.pref a).idxOf r < s.nx a → (M.pref a).idxOf r = (M'.pref a).idxOf r ∧ r ∈ M.pref a := fun a r hm h => by
    by_cases e : a = c
    · subst e
      have z := idx_take ht h (idx_lt hm)
      have := I.i0 a
      exact ⟨z, idx_mem (by omega)⟩
    · rw [hp a e] at hm ⊢; exact ⟨rfl, hm⟩
  have ins : ∀ r, inside M' s.hd r = inside M s.hd r := fun r => by unfold inside; rw [ho]
  refine ⟨fun a => ?_, fun a r h => ?_, fun a r l hi hn => ?_, fun r => ?_, I.tl, fun a b r r' ha hb hne hts l hi => ?_⟩
  · by_cases e : a = c
    · subst e; exact len
    · rw [hp a e]; exact I.i0 a
  · obtain ⟨l, n⟩ := I.i1 a r h
    obtain ⟨e, m⟩ := to a r l.1 (by omega)
    exact ⟨⟨m, by rw [ho]; exact l.2⟩, by rw [e]; exact n⟩
  · obtain ⟨e, m⟩ := fro a r l.1 hi
    rw [ins, hs, ho]
    refine I.i2 a r ⟨m, by rw [← ho]; exact l.2⟩ (by omega) hn
  · rw [ins, hs]; exact I.i3 r
  · obtain ⟨lb, nb⟩ := I.i1 b r' hb
    obtain ⟨e', _⟩ := to b r' lb.1 (by omega)
    obtain ⟨e, m⟩ := fro b r l.1 (by omega)
    obtain ⟨h, g1, g2, g3, g4, g5⟩ := I.g a b r r' ha hb hne hts ⟨m, by rw [← ho]; exact l.2⟩ (by omega)
    obtain ⟨eh, mh⟩ := to h r g1.1 g2
    exact ⟨h, ⟨mh, by rw [ho]; exact g1.2⟩, by omega, g3, by rw [ho]; exact g4, g5⟩
end DA

/-! ## KBase -/
set_option maxRecDepth 100000
set_option maxHeartbeats 4000000
/-! The text by places, what the top has made, how heaps grow. -/
namespace K6
open PySem PySem.Spec PyProof.Rows L2
def top (i : Nat) : Stmt := PySem.Challenge.pw_pairmart_k61_whole_no_lie_helps_on_any_d.main.body.getD i (.Pass ⟨0, 0, 0, 0⟩)
abbrev s_W_init : Stmt := inClass (top 9) 0
abbrev s_W_has : Stmt := inClass (top 9) 1
abbrev s_W_rank : Stmt := inClass (top 9) 2
abbrev s_W_better : Stmt := inClass (top 9) 3
abbrev s_W_worst : Stmt := inClass (top 9) 5
abbrev s_g_check_list : Stmt := top 10
abbrev s_g_all_lists : Stmt := top 11
abbrev s_M_init : Stmt := inClass (top 13) 0
abbrev s_M_size : Stmt := inClass (top 13) 1
abbrev s_M_with_list : Stmt := inClass (top 13) 4
abbrev s_g_those_in : Stmt := top 14
abbrev s_A_init : Stmt := inClass (top 16) 0
abbrev s_A_wants : Stmt := inClass (top 16) 1
abbrev s_A_ask : Stmt := inClass (top 16) 2
abbrev s_A_go_on : Stmt := inClass (top 16) 3
abbrev s_g_ask_all : Stmt := top 17
abbrev s_g_reached : Stmt := top 19
abbrev s_g_best_lie : Stmt := top 20
abbrev s_g_lists_of_lot : Stmt := top 21
abbrev s_g_lot_lie : Stmt := top 22
abbrev s_g_check_words : Stmt := top 24
abbrev s_F_init : Stmt := inClass (top 25) 0
abbrev s_F_likes : Stmt := inClass (top 25) 1
abbrev s_F_those_in : Stmt := inClass (top 25) 2
abbrev s_F_match : Stmt := inClass (top 25) 3
abbrev s_F_ask : Stmt := inClass (top 25) 4
abbrev s_F_who_waits : Stmt := inClass (top 25) 5
abbrev s_F_go_on : Stmt := inClass (top 25) 6
abbrev s_F_part_of : Stmt := inClass (top 25) 7
abbrev s_F_ask_anew : Stmt := inClass (top 25) 8
abbrev s_F_told : Stmt := inClass (top 25) 9
abbrev s_F_come : Stmt := inClass (top 25) 10
abbrev s_F_wish : Stmt := inClass (top 25) 12
abbrev s_F_open_room : Stmt := inClass (top 25) 13
abbrev s_F_set_room : Stmt := inClass (top 25) 14
abbrev s_F_change_room : Stmt := inClass (top 25) 16
abbrev s_F_names : Stmt := inClass (top 25) 17
abbrev s_F_as_market : Stmt := inClass (top 25) 18
abbrev s_g_law_dice : Stmt := top 27
abbrev s_g_law_roll : Stmt := top 28
abbrev s_g_law_rounds : Stmt := top 29
abbrev s_g_law_place : Stmt := top 30
abbrev s_g_law_words : Stmt := top 31
abbrev s_g_law : Stmt := top 32
/-- the addresses of classes, defs, code objects and tables -/
structure Ad where
  cW : Addr
  cM : Addr
  cA : Addr
  cF : Addr
  f_W_init : Addr
  d_W_init : FuncData
  f_W_has : Addr
  d_W_has : FuncData
  f_W_rank : Addr
  d_W_rank : FuncData
  f_W_better : Addr
  d_W_better : FuncData
  f_W_worst : Addr
  d_W_worst : FuncData
  f_g_check_list : Addr
  d_g_check_list : FuncData
  f_g_all_lists : Addr
  d_g_all_lists : FuncData
  f_M_init : Addr
  d_M_init : FuncData
  f_M_size : Addr
  d_M_size : FuncData
  f_M_with_list : Addr
  d_M_with_list : FuncData
  f_g_those_in : Addr
  d_g_those_in : FuncData
  f_A_init : Addr
  d_A_init : FuncData
  f_A_wants : Addr
  d_A_wants : FuncData
  f_A_ask : Addr
  d_A_ask : FuncData
  f_A_go_on : Addr
  d_A_go_on : FuncData
  f_g_ask_all : Addr
  d_g_ask_all : FuncData
  f_g_reached : Addr
  d_g_reached : FuncData
  f_g_best_lie : Addr
  d_g_best_lie : FuncData
  f_g_lists_of_lot : Addr
  d_g_lists_of_lot : FuncData
  f_g_lot_lie : Addr
  d_g_lot_lie : FuncData
  f_g_check_words : Addr
  d_g_check_words : FuncData
  f_F_init : Addr
  d_F_init : FuncData
  f_F_likes : Addr
  d_F_likes : FuncData
  f_F_those_in : Addr
  d_F_those_in : FuncData
  f_F_match : Addr
  d_F_match : FuncData
  f_F_ask : Addr
  d_F_ask : FuncData
  f_F_who_waits : Addr
  d_F_who_waits : FuncData
  f_F_go_on : Addr
  d_F_go_on : FuncData
  f_F_part_of : Addr
  d_F_part_of : FuncData
  f_F_ask_anew : Addr
  d_F_ask_anew : FuncData
  f_F_told : Addr
  d_F_told : FuncData
  f_F_come : Addr
  d_F_come : FuncData
  f_F_wish : Addr
  d_F_wish : FuncData
  f_F_open_room : Addr
  d_F_open_room : FuncData
  f_F_set_room : Addr
  d_F_set_room : FuncData
  f_F_change_room : Addr
  d_F_change_room : FuncData
  f_F_names : Addr
  d_F_names : FuncData
  f_F_as_market : Addr
  d_F_as_market : FuncData
  f_g_law_dice : Addr
  d_g_law_dice : FuncData
  f_g_law_roll : Addr
  d_g_law_roll : FuncData
  f_g_law_rounds : Addr
  d_g_law_rounds : FuncData
  f_g_law_place : Addr
  d_g_law_place : FuncData
  f_g_law_words : Addr
  d_g_law_words : FuncData
  f_g_law : Addr
  d_g_law : FuncData
  k1 : Addr
  p1 : Addr
  k2 : Addr
  p2 : Addr
  k3 : Addr
  p3 : Addr
  k4 : Addr
  p4 : Addr
/-- a def whose code object is known -/
structure FunC (K : PySem.W.Frag) (x qual : Str) (st : Stmt) (f : Addr) (fd : FuncData) (c : Addr) : Prop where
  ex : ∃ (oc : Value) (od : Option Addr) (kV doc pm : Value) (an : Option Addr) (ct : Value) (osl : Array (Option Value)),
    fd = PySem.W.fnOf x qual (defArgs st) (defBody st) (defScope st) .none kV doc pm an (.ref c) ct ∧ K.lookup f = some ⟨oc, od, .func fd, osl⟩ ∧ PySem.W.codeIn K (.ref c) qual = true
  kp : PySem.W.keepIn K (.ref f) = true
theorem FunC.ok {P : Program} {w : World} {K : PySem.W.Frag} {mg : Str → Option Value} {base : Heap} {x qual : Str} {st : Stmt} {f c : Addr} {fd : FuncData} {N ps : List Str} {k : Nat} {sp : Sp} (F : FunC K x qual st f fd c) (S : FnScope N ps (defScope st)) (len : ∀ vs H Q E, sp vs H Q E → vs.length = ps.length)
    (hbody : ∀ (A : Around) (outer : List Env) (s : Shared) (H : Hp) (vs : List V) (Q : VK) (E : XK), Room k (A.deeper (envOfC qual (defScope st) s.heap.objs.size f (.ref c))) → sp vs H Q E →
      ∃ t, PSs (cxOf CX0 P w K mg base N qual (defScope st) f (.ref c) A outer s H E).nox (defBody st) t ∧ t { nx := fun _ H' => Q .non H', rt := Q } (start N vs) H) : FnOk P w K mg base CX0 (k + 1) f fd ps sp := by
  obtain ⟨oc, od, kV, doc, pm, an, ct, osl, rfl, lk, hcd⟩ := F.ex
  refine fn_of lk hcd S len fun A outer s H vs Q E hr hsp => ?_
  obtain ⟨t, h, q⟩ := hbody A outer s H vs Q E hr hsp
  exact ⟨t, h.nox, q⟩
theorem FunC.binds {K : PySem.W.Frag} {x qual : Str} {st : Stmt} {f c : Addr} {fd : FuncData} {ps : List Str} (F : FunC K x qual st f fd c)
    (h : ∀ (kV doc pm : Value) (an : Option Addr) (cdv ct : Value) (us : List Value), us.length = ps.length → bindArgs (PySem.W.fnOf x qual (defArgs st) (defBody st) (defScope st) .none kV doc pm an cdv ct) ⟨us, []⟩ = pure (ps.zip us)) : Binds K fd ps [] := by
  obtain ⟨oc, od, kV, doc, pm, an, ct, osl, rfl, lk, hcd⟩ := F.ex
  exact .all (h kV doc pm an (.ref c) ct)
/-- what the top has made -/
structure Txt (K : PySem.W.Frag) (mg : Str → Option Value) (base : Heap) (a : Ad) : Prop where
  cl_W : Cls K a.cW
  mk_W : Mk K a.cW a.f_W_init
  gc_W : mg "Wish" = some (.ref a.cW)
  n_W_order : NoAttr K a.cW "order"
  n_W_ranks : NoAttr K a.cW "ranks"
  cl_M : Cls K a.cM
  mk_M : Mk K a.cM a.f_M_init
  gc_M : mg "Market" = some (.ref a.cM)
  n_M_askers : NoAttr K a.cM "askers"
  n_M_rooms : NoAttr K a.cM "rooms"
  n_M_seats : NoAttr K a.cM "seats"
  cl_A : Cls K a.cA
  mk_A : Mk K a.cA a.f_A_init
  gc_A : mg "Asking" = some (.ref a.cA)
  n_A_market : NoAttr K a.cA "market"
  n_A_next : NoAttr K a.cA "next"
  n_A_held : NoAttr K a.cA "held"
  n_A_steps : NoAttr K a.cA "steps"
  cl_F : Cls K a.cF
  mk_F : Mk K a.cF a.f_F_init
  gc_F : mg "Fair" = some (.ref a.cF)
  n_F_lists : NoAttr K a.cF "lists"
  n_F_orders : NoAttr K a.cF "orders"
  n_F_seats : NoAttr K a.cF "seats"
  n_F_held : NoAttr K a.cF "held"
  n_F_next : NoAttr K a.cF "next"
  n_F_asks : NoAttr K a.cF "asks"
  F_W_init : Fun K "__init__" "Wish.__init__" s_W_init a.f_W_init a.d_W_init
  b_W_init : Binds K a.d_W_init ["self", "order"] []
  F_W_has : Fun K "has" "Wish.has" s_W_has a.f_W_has a.d_W_has
  b_W_has : Binds K a.d_W_has ["self", "one"] []
  m_W_has : Meth K a.cW "has" a.f_W_has
  F_W_rank : Fun K "rank" "Wish.rank" s_W_rank a.f_W_rank a.d_W_rank
  b_W_rank : Binds K a.d_W_rank ["self", "one"] []
  m_W_rank : Meth K a.cW "rank" a.f_W_rank
  F_W_better : Fun K "better" "Wish.better" s_W_better a.f_W_better a.d_W_better
  b_W_better : Binds K a.d_W_better ["self", "one", "other"] []
  m_W_better : Meth K a.cW "better" a.f_W_better
  F_W_worst : FunC K "worst" "Wish.worst" s_W_worst a.f_W_worst a.d_W_worst a.k4
  b_W_worst : Binds K a.d_W_worst ["self", "ones"] []
  m_W_worst : Meth K a.cW "worst" a.f_W_worst
  F_g_check_list : FunC K "check_list" "check_list" s_g_check_list a.f_g_check_list a.d_g_check_list a.k1
  b_g_check_list : Binds K a.d_g_check_list ["order", "many"] []
  g_g_check_list : mg "check_list" = some (.ref a.f_g_check_list)
  F_g_all_lists : Fun K "all_lists" "all_lists" s_g_all_lists a.f_g_all_lists a.d_g_all_lists
  b_g_all_lists : Binds K a.d_g_all_lists ["many"] []
  g_g_all_lists : mg "all_lists" = some (.ref a.f_g_all_lists)
  F_M_init : FunC K "__init__" "Market.__init__" s_M_init a.f_M_init a.d_M_init a.k2
  b_M_init : Binds K a.d_M_init ["self", "lists", "orders", "seats"] []
  F_M_size : Fun K "size" "Market.size" s_M_size a.f_M_size a.d_M_size
  b_M_size : Binds K a.d_M_size ["self"] []
  m_M_size : Meth K a.cM "size" a.f_M_size
  F_M_with_list : Fun K "with_list" "Market.with_list" s_M_with_list a.f_M_with_list a.d_M_with_list
  b_M_with_list : Binds K a.d_M_with_list ["self", "asker", "order"] []
  m_M_with_list : Meth K a.cM "with_list" a.f_M_with_list
  F_g_those_in : Fun K "those_in" "those_in" s_g_those_in a.f_g_those_in a.d_g_those_in
  b_g_those_in : Binds K a.d_g_those_in ["match", "room"] []
  g_g_those_in : mg "those_in" = some (.ref a.f_g_those_in)
  F_A_init : Fun K "__init__" "Asking.__init__" s_A_init a.f_A_init a.d_A_init
  b_A_init : Binds K a.d_A_init ["self", "market"] []
  F_A_wants : Fun K "wants" "Asking.wants" s_A_wants a.f_A_wants a.d_A_wants
  b_A_wants : Binds K a.d_A_wants ["self", "asker"] []
  m_A_wants : Meth K a.cA "wants" a.f_A_wants
  F_A_ask : Fun K "ask" "Asking.ask" s_A_ask a.f_A_ask a.d_A_ask
  b_A_ask : Binds K a.d_A_ask ["self", "asker"] []
  m_A_ask : Meth K a.cA "ask" a.f_A_ask
  F_A_go_on : Fun K "go_on" "Asking.go_on" s_A_go_on a.f_A_go_on a.d_A_go_on
  b_A_go_on : Binds K a.d_A_go_on ["self"] []
  m_A_go_on : Meth K a.cA "go_on" a.f_A_go_on
  F_g_ask_all : Fun K "ask_all" "ask_all" s_g_ask_all a.f_g_ask_all a.d_g_ask_all
  b_g_ask_all : Binds K a.d_g_ask_all ["market"] []
  g_g_ask_all : mg "ask_all" = some (.ref a.f_g_ask_all)
  F_g_reached : Fun K "reached" "reached" s_g_reached a.f_g_reached a.d_g_reached
  b_g_reached : Binds K a.d_g_reached ["market", "asker"] []
  g_g_reached : mg "reached" = some (.ref a.f_g_reached)
  F_g_best_lie : Fun K "best_lie" "best_lie" s_g_best_lie a.f_g_best_lie a.d_g_best_lie
  b_g_best_lie : Binds K a.d_g_best_lie ["market", "asker"] []
  g_g_best_lie : mg "best_lie" = some (.ref a.f_g_best_lie)
  F_g_lists_of_lot : Fun K "lists_of_lot" "lists_of_lot" s_g_lists_of_lot a.f_g_lists_of_lot a.d_g_lists_of_lot
  b_g_lists_of_lot : Binds K a.d_g_lists_of_lot ["market", "lot"] []
  g_g_lists_of_lot : mg "lists_of_lot" = some (.ref a.f_g_lists_of_lot)
  F_g_lot_lie : FunC K "lot_lie" "lot_lie" s_g_lot_lie a.f_g_lot_lie a.d_g_lot_lie a.k3
  b_g_lot_lie : Binds K a.d_g_lot_lie ["market", "lot"] []
  g_g_lot_lie : mg "lot_lie" = some (.ref a.f_g_lot_lie)
  F_g_check_words : Fun K "check_words" "check_words" s_g_check_words a.f_g_check_words a.d_g_check_words
  b_g_check_words : Binds K a.d_g_check_words ["words"] []
  g_g_check_words : mg "check_words" = some (.ref a.f_g_check_words)
  F_F_init : Fun K "__init__" "Fair.__init__" s_F_init a.f_F_init a.d_F_init
  b_F_init : Binds K a.d_F_init ["self"] []
  F_F_likes : Fun K "likes" "Fair.likes" s_F_likes a.f_F_likes a.d_F_likes
  b_F_likes : Binds K a.d_F_likes ["self", "asker", "room"] []
  m_F_likes : Meth K a.cF "likes" a.f_F_likes
  F_F_those_in : Fun K "those_in" "Fair.those_in" s_F_those_in a.f_F_those_in a.d_F_those_in
  b_F_those_in : Binds K a.d_F_those_in ["self", "room"] []
  m_F_those_in : Meth K a.cF "those_in" a.f_F_those_in
  F_F_match : Fun K "match" "Fair.match" s_F_match a.f_F_match a.d_F_match
  b_F_match : Binds K a.d_F_match ["self"] []
  m_F_match : Meth K a.cF "match" a.f_F_match
  F_F_ask : Fun K "ask" "Fair.ask" s_F_ask a.f_F_ask a.d_F_ask
  b_F_ask : Binds K a.d_F_ask ["self", "asker"] []
  m_F_ask : Meth K a.cF "ask" a.f_F_ask
  F_F_who_waits : Fun K "who_waits" "Fair.who_waits" s_F_who_waits a.f_F_who_waits a.d_F_who_waits
  b_F_who_waits : Binds K a.d_F_who_waits ["self"] []
  m_F_who_waits : Meth K a.cF "who_waits" a.f_F_who_waits
  F_F_go_on : Fun K "go_on" "Fair.go_on" s_F_go_on a.f_F_go_on a.d_F_go_on
  b_F_go_on : Binds K a.d_F_go_on ["self"] []
  m_F_go_on : Meth K a.cF "go_on" a.f_F_go_on
  F_F_part_of : Fun K "part_of" "Fair.part_of" s_F_part_of a.f_F_part_of a.d_F_part_of
  b_F_part_of : Binds K a.d_F_part_of ["self", "askers", "rooms"] []
  m_F_part_of : Meth K a.cF "part_of" a.f_F_part_of
  F_F_ask_anew : Fun K "ask_anew" "Fair.ask_anew" s_F_ask_anew a.f_F_ask_anew a.d_F_ask_anew
  b_F_ask_anew : Binds K a.d_F_ask_anew ["self", "askers"] []
  m_F_ask_anew : Meth K a.cF "ask_anew" a.f_F_ask_anew
  F_F_told : Fun K "told" "Fair.told" s_F_told a.f_F_told a.d_F_told
  b_F_told : Binds K a.d_F_told ["self", "before"] []
  m_F_told : Meth K a.cF "told" a.f_F_told
  F_F_come : Fun K "come" "Fair.come" s_F_come a.f_F_come a.d_F_come
  b_F_come : Binds K a.d_F_come ["self", "asker", "rooms"] []
  m_F_come : Meth K a.cF "come" a.f_F_come
  F_F_wish : Fun K "wish" "Fair.wish" s_F_wish a.f_F_wish a.d_F_wish
  b_F_wish : Binds K a.d_F_wish ["self", "asker", "rooms"] []
  m_F_wish : Meth K a.cF "wish" a.f_F_wish
  F_F_open_room : Fun K "open_room" "Fair.open_room" s_F_open_room a.f_F_open_room a.d_F_open_room
  b_F_open_room : Binds K a.d_F_open_room ["self", "room", "askers", "count"] []
  m_F_open_room : Meth K a.cF "open_room" a.f_F_open_room
  F_F_set_room : Fun K "set_room" "Fair.set_room" s_F_set_room a.f_F_set_room a.d_F_set_room
  b_F_set_room : Binds K a.d_F_set_room ["self", "room", "askers", "count"] []
  m_F_set_room : Meth K a.cF "set_room" a.f_F_set_room
  F_F_change_room : Fun K "change_room" "Fair.change_room" s_F_change_room a.f_F_change_room a.d_F_change_room
  b_F_change_room : Binds K a.d_F_change_room ["self", "room", "askers", "count"] []
  m_F_change_room : Meth K a.cF "change_room" a.f_F_change_room
  F_F_names : Fun K "names" "Fair.names" s_F_names a.f_F_names a.d_F_names
  b_F_names : Binds K a.d_F_names ["self"] []
  m_F_names : Meth K a.cF "names" a.f_F_names
  F_F_as_market : Fun K "as_market" "Fair.as_market" s_F_as_market a.f_F_as_market a.d_F_as_market
  b_F_as_market : Binds K a.d_F_as_market ["self"] []
  m_F_as_market : Meth K a.cF "as_market" a.f_F_as_market
  F_g_law_dice : Fun K "_law_dice" "_law_dice" s_g_law_dice a.f_g_law_dice a.d_g_law_dice
  b_g_law_dice : Binds K a.d_g_law_dice ["_law_cell"] []
  g_g_law_dice : mg "_law_dice" = some (.ref a.f_g_law_dice)
  F_g_law_roll : Fun K "_law_roll" "_law_roll" s_g_law_roll a.f_g_law_roll a.d_g_law_roll
  b_g_law_roll : Binds K a.d_g_law_roll ["_law_dice_here", "_law_many"] []
  g_g_law_roll : mg "_law_roll" = some (.ref a.f_g_law_roll)
  F_g_law_rounds : Fun K "_law_rounds" "_law_rounds" s_g_law_rounds a.f_g_law_rounds a.d_g_law_rounds
  b_g_law_rounds : Binds K a.d_g_law_rounds ["_law_script", "_law_most_now"] []
  g_g_law_rounds : mg "_law_rounds" = some (.ref a.f_g_law_rounds)
  F_g_law_place : Fun K "_law_place" "_law_place" s_g_law_place a.f_g_law_place a.d_g_law_place
  b_g_law_place : Binds K a.d_g_law_place ["_law_order", "_law_one"] []
  g_g_law_place : mg "_law_place" = some (.ref a.f_g_law_place)
  F_g_law_words : Fun K "_law_words" "_law_words" s_g_law_words a.f_g_law_words a.d_g_law_words
  b_g_law_words : Binds K a.d_g_law_words ["_law_dice_here", "_law_words_here"] []
  g_g_law_words : mg "_law_words" = some (.ref a.f_g_law_words)
  F_g_law : Fun K "law" "law" s_g_law a.f_g_law a.d_g_law
  b_g_law : Binds K a.d_g_law ["_law_script"] []
  g_g_law : mg "law" = some (.ref a.f_g_law)
  z_len : mg "len" = none
  z_tuple : mg "tuple" = none
  z_dict : mg "dict" = none
  z_any : mg "any" = none
  z_all : mg "all" = none
  z_range : mg "range" = none
  z_max : mg "max" = none
  z_sorted : mg "sorted" = none
  z_list : mg "list" = none
  z_enumerate : mg "enumerate" = none
  z_abs : mg "abs" = none
  z_int : mg "int" = none
  t1 : GxR.TabB base mg a.k1 a.p1
  t2 : GxR.TabB base mg a.k2 a.p2
  t3 : GxR.TabB base mg a.k3 a.p3
  t4 : LamX.TabB base mg a.k4 a.p4
  ne_WM : a.cM ≠ a.cW
  ne_WA : a.cA ≠ a.cW
  ne_MA : a.cA ≠ a.cM
  ne_FW : a.cF ≠ a.cW
  ne_FM : a.cF ≠ a.cM
  p41 : a.p4 ≠ a.p1
  p42 : a.p4 ≠ a.p2
  p43 : a.p4 ≠ a.p3

/-! ### attributes -/
theorem lk1 {x : Str} {v : V} {r : List (Str × V)} : List.lookup x ((x, v) :: r) = some v := by
  have e : (x == x) = true := beq_self_eq_true x
  simp only [List.lookup, e]
theorem lk2 {x y : Str} {v u : V} {r : List (Str × V)} (h : ¬ x = y) (k : List.lookup x r = some u) : List.lookup x ((y, v) :: r) = some u := by
  have e : (x == y) = false := beq_eq_false_iff_ne.mpr h
  simp only [List.lookup, e]
  exact k
theorem lk0 {x y : Str} {v : V} {r : List (Str × V)} (h : ¬ x = y) (k : List.lookup x r = none) : List.lookup x ((y, v) :: r) = none := by
  have e : (x == y) = false := beq_eq_false_iff_ne.mpr h
  simp only [List.lookup, e]
  exact k
theorem lkn {x : Str} : List.lookup x ([] : List (Str × V)) = none := rfl
theorem pf1 {x : Str} {v u : V} {r : List (Str × V)} : putF x u ((x, v) :: r) = (x, u) :: r := by
  unfold putF
  rw [if_pos rfl]
theorem pf2 {x y : Str} {v u : V} {r q : List (Str × V)} (h : ¬ y = x) (k : putF x u r = q) : putF x u ((y, v) :: r) = (y, v) :: q := by
  unfold putF
  rw [if_neg h, k]
theorem pf0 {x : Str} {u : V} : putF x u [] = [(x, u)] := rfl

/-! ### heaps that grow -/
def nt : HO → Bool
  | .tbl _ => false
  | _ => true
/-- the tables of the four defs that make code objects -/
structure Tb (a : Ad) (H : Hp) : Prop where
  t1 : GxR.TabG H a.p1
  t2 : GxR.TabG H a.p2
  t3 : GxR.TabG H a.p3
  t4 : LamX.TabS H a.p4 "Wish.worst.<locals>.<lambda>"
/-- all but S and the tables stays -/
structure Gx (a : Ad) (S : List Addr) (H H' : Hp) : Prop where
  keep : ∀ b o, H b = some o → b ∉ S → nt o = true → H' b = some o
  tb : Tb a H → Tb a H'
  free : ∀ b, H' b = none → H b = none
abbrev Gr (a : Ad) (H H' : Hp) : Prop := Gx a [] H H'
section
variable {a : Ad} {S : List Addr} {H H1 H2 H' : Hp}
theorem Gx.refl : Gx a S H H := ⟨fun _ _ h _ _ => h, fun t => t, fun _ h => h⟩
theorem Gx.trans (x : Gx a S H H1) (y : Gx a S H1 H2) : Gx a S H H2 :=
  ⟨fun b o h hb hn => y.keep b o (x.keep b o h hb hn) hb hn, fun t => y.tb (x.tb t), fun b h => x.free b (y.free b h)⟩
theorem Gx.mono {S' : List Addr} (x : Gx a S H H1) (h : ∀ b, b ∈ S → b ∈ S') : Gx a S' H H1 := ⟨fun b o e hb hn => x.keep b o e (fun z => hb (h b z)) hn, x.tb, x.free⟩
theorem Gr.to (x : Gr a H H1) : Gx a S H H1 := x.mono fun _ z => by cases z
theorem Gx.to (x : Gx a [] H H1) : Gx a S H H1 := x.mono fun _ z => by cases z
theorem Gx.there (x : Gx a S H H') {b : Addr} {o : HO} (h : H b = some o) : ∃ o', H' b = some o' := by
  cases e : H' b with
  | some o' => exact ⟨o', rfl⟩
  | none => rw [x.free b e] at h; cases h
/-- what is changed is new -/
theorem Gx.over (x : Gr a H H1) (y : Gx a S H1 H2) (h : ∀ b, b ∈ S → H b = none) : Gr a H H2 :=
  ⟨fun b o e _ hn => y.keep b o (x.keep b o e (by simp) hn) (fun z => by rw [h b z] at e; cases e) hn, fun t => y.tb (x.tb t), fun b e => x.free b (y.free b e)⟩
theorem Tb.new {p : Addr} {o : HO} (t : Tb a H) (h : H p = none) : Tb a (upd H p o) := by
  have k : ∀ b o', H b = some o' → upd H p o b = some o' := fun b o' e => by rw [upd_ne (ne_of_none e h)]; exact e
  obtain ⟨⟨q1, a1, b1⟩, ⟨q2, a2, b2⟩, ⟨q3, a3, b3⟩, t4⟩ := t
  exact ⟨⟨q1, k _ _ a1, b1⟩, ⟨q2, k _ _ a2, b2⟩, ⟨q3, k _ _ a3, b3⟩, t4.ext k⟩
theorem Gx.new {p : Addr} {o : HO} (h : H p = none) : Gx a S H (upd H p o) :=
  ⟨fun b o' e _ _ => by rw [upd_ne (ne_of_none e h)]; exact e, fun t => t.new h, fun b e => by
    by_cases hb : b = p
    · rw [hb]; exact h
    · rw [upd_ne hb] at e; exact e⟩
/-- an object that is no table and no code object changes -/
def plain : HO → Bool
  | .tbl _ => false
  | .ext _ => false
  | _ => true
theorem Gx.set {p : Addr} {o o' : HO} (h : H p = some o) (hn : plain o = true) (hp : p ∈ S) : Gx a S H (upd H p o') := by
  have k : ∀ b u, H b = some u → plain u = false → upd H p o' b = some u := fun b u e hu => by
    have : b ≠ p := fun z => by
      rw [z, h] at e
      cases e
      rw [hn] at hu
      cases hu
    rw [upd_ne this]; exact e
  refine ⟨fun b u e hb _ => ?_, fun t => ?_, fun b e => ?_⟩
  · have : b ≠ p := fun z => hb (z ▸ hp)
    rw [upd_ne this]; exact e
  · obtain ⟨⟨q1, a1, b1⟩, ⟨q2, a2, b2⟩, ⟨q3, a3, b3⟩, ⟨q4, a4, b4, c4⟩⟩ := t
    refine ⟨⟨q1, k _ _ a1 rfl, b1⟩, ⟨q2, k _ _ a2 rfl, b2⟩, ⟨q3, k _ _ a3 rfl, b3⟩, ⟨q4, k _ _ a4 rfl, b4, fun pos cv hc => ?_⟩⟩
    obtain ⟨c, e1, e2⟩ := c4 pos cv hc
    exact ⟨c, e1, k _ _ e2 rfl⟩
  · by_cases hb : b = p
    · rw [hb, upd_same] at e; cases e
    · rw [upd_ne hb] at e; exact e
theorem Gx.tup (x : Gx a S H H') {b : Addr} {xs : List V} (h : H b = some (.tup xs)) (hb : b ∉ S) : H' b = some (.tup xs) := x.keep b _ h hb rfl
theorem Gx.lst (x : Gx a S H H') {b : Addr} {xs : List V} (h : H b = some (.lst xs)) (hb : b ∉ S) : H' b = some (.lst xs) := x.keep b _ h hb rfl
theorem Gx.ins (x : Gx a S H H') {b C dx : Addr} {fs : List (Str × V)} (h : H b = some (.ins C dx fs)) (hb : b ∉ S) : H' b = some (.ins C dx fs) := x.keep b _ h hb rfl
theorem Gx.dk (x : Gx a S H H') {b : Addr} {kvs : List (Key × V)} (h : H b = some (.dK kvs)) (hb : b ∉ S) : H' b = some (.dK kvs) := x.keep b _ h hb rfl
theorem Gr.tup (x : Gr a H H') {b : Addr} {xs : List V} (h : H b = some (.tup xs)) : H' b = some (.tup xs) := x.keep b _ h (by simp) rfl
theorem Gr.lst (x : Gr a H H') {b : Addr} {xs : List V} (h : H b = some (.lst xs)) : H' b = some (.lst xs) := x.keep b _ h (by simp) rfl
theorem Gr.ins (x : Gr a H H') {b C dx : Addr} {fs : List (Str × V)} (h : H b = some (.ins C dx fs)) : H' b = some (.ins C dx fs) := x.keep b _ h (by simp) rfl
theorem Gr.dk (x : Gr a H H') {b : Addr} {kvs : List (Key × V)} (h : H b = some (.dK kvs)) : H' b = some (.dK kvs) := x.keep b _ h (by simp) rfl
/-- a new instance and its dict -/
theorem Gx.inst {x dx C : Addr} (nx : H x = none) (nd : H dx = none) (ne : dx ≠ x) : Gx a S H (upd (upd H dx (.own x)) x (.ins C dx [])) :=
  (Gx.new nd).trans (Gx.new (by rw [upd_ne ne.symm]; exact nx))
theorem Gx.seqL {K : PySem.W.Frag} (x : Gr a H H') {b : Addr} {xs : List V} (h : SqL K H b xs) : SqL K H' b xs := by
  rcases h with (h | ⟨o, h⟩) | h
  · exact .inl (.inl (x.lst h))
  · exact .inl (.inr ⟨o, x.keep _ _ h (by simp) rfl⟩)
  · exact .inr h
/-- a def's table has grown -/
theorem Gx.tabbed {P : Addr} (h : GxR.TabG H P) (h4 : a.p4 ≠ P) (t : GxR.Tabbed P H H') : Gx a S H H' := by
  obtain ⟨tn, k⟩ := t
  obtain ⟨ps, e, hq⟩ := h
  have ko : ∀ b o, H b = some o → nt o = true → H' b = some o := fun b o hb hn => by
    have : b ≠ P := fun z => by
      rw [z, e] at hb
      cases hb
      cases hn
    rw [k b this]; exact hb
  have kt : ∀ b, GxR.TabG H b → GxR.TabG H' b := fun b ⟨q, e1, e2⟩ => by
    by_cases hb : b = P
    · rw [hb]; exact tn
    · exact ⟨q, by rw [k b hb]; exact e1, e2⟩
  refine ⟨fun b o hb _ hn => ko b o hb hn, fun ⟨t1, t2, t3, ⟨q4, a4, b4, c4⟩⟩ => ⟨kt _ t1, kt _ t2, kt _ t3, ⟨q4, by rw [k _ h4]; exact a4, b4, fun pos cv hc => ?_⟩⟩, fun b hb => ?_⟩
  · obtain ⟨c, e1, e2⟩ := c4 pos cv hc
    exact ⟨c, e1, ko _ _ e2 rfl⟩
  · by_cases hz : b = P
    · obtain ⟨q, e1, _⟩ := tn
      rw [hz, e1] at hb
      cases hb
    · rw [k b hz] at hb
      exact hb
/-- a new thing is changed -/
theorem Gx.app {D : Addr} {o o' : HO} (g : Gr a H H1) (n : H D = none) (hD : H1 D = some o) (hn : plain o = true) : Gr a H (upd H1 D o') :=
  Gx.over g (Gx.set (S := [D]) hD hn (by simp)) fun b hb => by rw [List.mem_singleton.mp hb]; exact n
theorem upd_tup {D b : Addr} {xs acc : List V} {o : HO} (h : H b = some (.tup xs)) (hD : H D = some (.lst acc)) : upd H D o b = some (.tup xs) := by
  rw [upd_ne (ne_of h hD (by intro z; cases z))]; exact h
theorem upd_dk {D b : Addr} {kvs : List (Key × V)} {acc : List V} {o : HO} (h : H b = some (.dK kvs)) (hD : H D = some (.lst acc)) : upd H D o b = some (.dK kvs) := by
  rw [upd_ne (ne_of h hD (by intro z; cases z))]; exact h
theorem upd_ins {D b C dx : Addr} {fs : List (Str × V)} {acc : List V} {o : HO} (h : H b = some (.ins C dx fs)) (hD : H D = some (.lst acc)) : upd H D o b = some (.ins C dx fs) := by
  rw [upd_ne (ne_of h hD (by intro z; cases z))]; exact h
theorem new_keep {p b : Addr} {o u : HO} (h : H b = some u) (n : H p = none) : upd H p o b = some u := by
  rw [upd_ne (ne_of_none h n)]; exact h
/-- a walk whose turn is any body -/
theorem walk_go {J : It} {n : Nat} {G : Hp → Prop} {Y : Nat → Hp → V → Hp → Prop} (w : Walk J n G Y) {H0 : Hp} {Qd : Hp → Prop} {Bd : V → Hp → (Hp → Prop) → Prop} (Pv : Nat → Hp → Prop) (h0 : Pv 0 H0) (hG : ∀ i H, i ≤ n → Pv i H → G H)
    (hs : ∀ i x H H', i < n → Pv i H → Y i H x H' → Bd x H' (Pv (i + 1))) (hd : ∀ H, Pv n H → Qd H) :
    ∃ W : Nat → Nat → Hp → Prop, (∃ m, W 0 m H0) ∧ ∀ i m H, W i m H → (J.stop i H ∧ Qd H) ∨ (J.go i H ∧ ∃ Nx : Hp → Prop, (∀ H', Nx H' → ∃ m', m' < m ∧ W (i + 1) m' H') ∧ ∀ x H', J.yld i H x H' → Bd x H' Nx) := by
  refine ⟨fun i m H => m = n - i ∧ i ≤ n ∧ Pv i H, ⟨n, by simp, Nat.zero_le _, h0⟩, ?_⟩
  rintro i m H ⟨rfl, hi, p⟩
  have q := hG i H hi p
  by_cases hlt : i < n
  · exact .inr ⟨w.goes i H hlt q, Pv (i + 1), fun H' p' => ⟨n - (i + 1), by omega, rfl, hlt, p'⟩, fun x H' y => hs i x H H' hlt p (w.yields i H x H' hlt q y)⟩
  · have e : i = n := by omega
    subst e
    exact .inl ⟨w.stops H q, hd H p⟩
theorem walk_range0 {n : Nat} : Walk (Itr 0 n) n (fun _ => True) (YFn fun i => .int (i : Nat)) :=
  ⟨fun _ _ hi _ => hi, fun _ _ => Nat.le_refl _, fun i _ _ _ _ _ y => ⟨y.1, by rw [y.2, show (0 : Int) + (i : Int) = ((i : Nat) : Int) by omega]⟩⟩
end
end K6

/-! ## KRules -/
set_option maxRecDepth 100000
set_option maxHeartbeats 4000000
/-! Rules of one's own: plain tuples, enumerate over a tuple, dict of a tuple of pairs. -/
namespace PySem
open Sem (wp)
open AutoSeq1 (wpAny_loadPart')
theorem k6_enumerate_newT (l : Addr) (items : Array Value) (n : Nat) (dct : Option Addr) (sl : Array (Option Value)) :
    Meets (Builtin.«enumerate.__new__» ⟨[.type "enumerate", .ref l], []⟩) (fun _ R s => s.heap.get? l = some { cls := .type "tuple", dict := dct, data := .seq items n, slots := sl } ∧
      R (.ok (.ret (.ref (s.heap.push { cls := .type "tuple_iterator", data := .fields #[.ref l, .int 0 0] }).objs.size)))
        { s with heap := (s.heap.push { cls := .type "tuple_iterator", data := .fields #[.ref l, .int 0 0] }).push { cls := .type "enumerate", data := .fields #[.none, .bool false, .ref s.heap.objs.size, rawInt 0, .none, .none] } }) :=
  .of_wp fun prog w A R s h => by
    obtain ⟨hp, g, d, tk, os⟩ := s; obtain ⟨hl, h⟩ := h
    have hsub := sub_enumerate
    have hL : Heap.IsTuple (Shared.heap ⟨hp, g, d, tk, os⟩) l items := ⟨_, hl, rfl, n, rfl⟩
    wp_walk using wpAny_loadPart' hl
    refine wpAny_stack_any fun st => wpAny_pure ?_
    split
    · rename_i c _ _ _ _ _
      cases (c == Value.type "enumerate")
      · wp_walk using wpAny_loadPart' hl, wpAny_pyIter_tuple hL
        exact ⟨_, rfl, h⟩
      · wp_walk using wpAny_loadPart' hl, wpAny_pyIter_tuple hL
        exact ⟨_, rfl, h⟩
    · wp_walk using wpAny_loadPart' hl, wpAny_pyIter_tuple hL
      exact ⟨_, rfl, h⟩
theorem k6_enumerate_tuple {prog : Program} {w : World} {A : Around} {E : Value → Shared → Prop} {s : Shared} {l : Addr} {items : Array Value} {Q : Value → Shared → Prop} (hL : s.heap.IsTuple l items)
    (h : ∀ h', IsEnum h' (s.heap.objs.size + 1) s.heap.objs.size 0 .none → h'.IsTupleIter s.heap.objs.size l 0 → h'.objs.size = s.heap.objs.size + 2 →
      (∀ b o, s.heap.get? b = some o → h'.get? b = some o) → Q (.ref (s.heap.objs.size + 1)) { s with heap := h' }) :
    wpAny (model prog w) A (call (.type "enumerate") [.ref l]) Q E s := by
  obtain ⟨⟨c, dct, dt, sl⟩, hl, hc, n, hd⟩ := hL
  replace hc : c = .type "tuple" := hc
  replace hd : dt = .seq items n := hd
  subst hc hd
  refine callType_new F.called_enumerate (by decide) (F.typeCall_enumerate_1 _) (F.newCall_enumerate_1 _) (fun obj => F.args_object_init_2 obj _) F.entry_enumerate_new
    (k6_enumerate_newT l items n dct sl) ⟨hl, ?_⟩
  have hz : (s.heap.push { cls := .type "tuple_iterator", data := .fields #[.ref l, .int 0 0] }).objs.size = s.heap.objs.size + 1 := Heap.size_push ..
  show _ ∧ _
  rw [hz]
  have he : IsEnum ((s.heap.push { cls := .type "tuple_iterator", data := .fields #[.ref l, .int 0 0] }).push
      { cls := .type "enumerate", data := .fields #[.none, .bool false, .ref s.heap.objs.size, rawInt 0, .none, .none] }) (s.heap.objs.size + 1) s.heap.objs.size 0 .none := by
    have := Heap.get?_push_size (s.heap.push { cls := .type "tuple_iterator", data := .fields #[.ref l, .int 0 0] })
      (o := { cls := .type "enumerate", data := .fields #[.none, .bool false, .ref s.heap.objs.size, rawInt 0, .none, .none] }) rfl
    rw [hz] at this; exact this
  refine ⟨⟨_, he, rfl⟩, h _ he ⟨_, Heap.get?_push_of_some _ (Heap.get?_push_size _ rfl), rfl, rfl⟩ (by rw [Heap.size_push, hz]) fun b o x => Heap.get?_push_of_some _ (Heap.get?_push_of_some _ x)⟩
end PySem

namespace K6
open PySem PySem.Spec PyProof.Rows L2
/-! ### enumerate over a tuple -/
def IteT (K : PySem.W.Frag) (a : Addr) : It :=
  ⟨fun i H => ∃ (xs : List V) (x : V), SqT K H a xs ∧ xs[i]? = some x, fun i H v H' => ∃ T x, v = .ref T ∧ H T = none ∧ H' = upd H T (.tup [.int (i : Nat), x]) ∧ ∀ xs, SqT K H a xs → xs[i]? = some x, fun i H => ∃ xs : List V, SqT K H a xs ∧ xs.length = i⟩
theorem turn_enumT {P : Program} {w : World} {K : PySem.W.Frag} {elts : List Expr} {kk : Nat} {tpos : Pos} (a e it : Addr) :
    Turn P w K (.Tuple elts kk tpos) (IteT K a) [e, it] e (fun i h => (∃ old, IsEnum h e it ((i : Nat) : Int) old) ∧ h.IsTupleIter it a i ∧ e ≠ it) where
  mem := by simp
  obj := fun i h st b hb => by
    obtain ⟨⟨old, he⟩, ⟨o, ho, hc, hd⟩, _⟩ := st
    have e' : b = e ∨ b = it := by simpa using hb
    rcases e' with z | z
    · rw [z]; exact ⟨_, he, fun v q => nomatch q⟩
    · rw [z]; exact ⟨o, ho, fun v q => by rw [hd] at q; cases q⟩
  keep := fun i h h' st k => let ⟨⟨old, he⟩, hi, hne⟩ := st; ⟨⟨old, k e (by simp) _ he⟩, hi.at fun o q => k it (by simp) o q, hne⟩
  item := by
    intro X hP hw hK hc i pins s σ H E I hf st hg
    subst hP hw hK
    obtain ⟨⟨old, he⟩, hit, hne⟩ := st
    obtain ⟨xs, x, hq, hx⟩ := hg
    obtain ⟨its, rv, p, hz⟩ := I.tuple hq
    obtain ⟨u, hu, ru⟩ := rv.get hx
    have hel : e < s.heap.objs.size := Heap.lt_size he
    have hil : it < s.heap.objs.size := by obtain ⟨_, q, _⟩ := hit; exact Heap.lt_size q
    have pt : s.heap.IsTuple a its.toArray := p
    have nea : a ≠ it := fun z => by
      obtain ⟨o1, q1, c1, d1⟩ := hit
      obtain ⟨o2, q2, c2, _⟩ := p
      rw [z, q1] at q2
      cases q2
      rw [c1] at c2
      exact absurd (Value.type.inj c2) (by decide)
    have nee : a ≠ e := fun z => by
      obtain ⟨o2, q2, c2, _⟩ := p
      rw [z, show s.heap.get? e = some _ from he] at q2
      cases q2
      exact absurd (Value.type.inj c2) (by decide)
    have hA : X.A.in1.handled = none := I.ok.hd hc
    have hi : i < its.toArray.size := by
      have q := (List.getElem?_eq_some_iff.mp hu).1
      simpa using q
    have hef : e ∉ [it, a] := fun z => by
      rcases List.mem_cons.mp z with z | z
      · exact hne z
      · exact nee (List.mem_singleton.mp z).symm
    refine wpAny_pyNext_enum_itemD (Draws.tuple hA it a nea its.toArray) he ⟨hit, pt⟩ hi hne hef fun x' h' tk hx' ho hst' hT hsz hk => ?_
    have ex : x' = u := by
      have hx' : its.toArray[i]? = some x' := hx'
      have hu' : its.toArray[i]? = some u := by simpa using hu
      rw [hu'] at hx'
      exact (Option.some.inj hx').symm
    subst ex
    refine ⟨_, rfl, wpAny_letOwnedTupleGo_enum (s := { s with heap := h', toks := tk + 1 }) ho fun h'' he' sb => ?_⟩
    have hT2 : h''.get? s.heap.objs.size = some { cls := .type "tuple", data := .seq #[.int i tk, x'] } := (sb.2 _ (Nat.ne_of_gt hel)).trans hT
    have new : ObjOk X.prog X.w (upd H s.heap.objs.size (.tup [.int (i : Nat), x])) h'' s.heap.objs.size (.tup [.int (i : Nat), x]) :=
      ⟨by show 2 ≤ sizeLine; decide, [.int i tk, x'], .cons ⟨_, rfl⟩ (.cons ru .nil), ⟨_, hT2, rfl, _, rfl⟩⟩
    have I1 : Inv X pins σ (upd H s.heap.objs.size (.tup [.int (i : Nat), x])) { s with heap := h'', toks := tk + 1 } :=
      I.turnedNew (ch := [e, it]) (fun b ob hb q => (sb.2 b (fun z => hb (by simp [z]))).trans (hk b ob (fun z => hb (by simp [z])) (fun z => hb (by simp [z])) q)) hf (Nat.le_refl _) new
    refine ⟨.ref s.heap.objs.size, _, I1, rfl, ⟨_, x, rfl, I.hok.fresh (Nat.le_refl _), rfl, fun ys hy => by rw [I.tuple_inj hy hq]; exact hx⟩, ⟨⟨x', ?_⟩, hst'.1.at fun o q => (sb.2 it (Ne.symm hne)).trans q, hne⟩, fun b hb => ?_⟩
    · have e1 : ((i + 1 : Nat) : Int) = (i : Int) + 1 := by omega
      rw [e1]; exact he'
    · have hb' : b < s.heap.objs.size := by
        have e' : b = e ∨ b = it := by simpa using hb
        rcases e' with z | z
        · rw [z]; exact hel
        · rw [z]; exact hil
      rw [upd_ne (Nat.ne_of_lt hb')]
      exact (hf b hb).1
  done := by
    intro X hP hw hK hc i pins s σ H E I hf st hg
    subst hP hw hK
    obtain ⟨⟨old, he⟩, hit, hne⟩ := st
    obtain ⟨xs, hq, hx⟩ := hg
    obtain ⟨its, rv, p, hz⟩ := I.tuple hq
    obtain ⟨f0, f1, f2, f3, f4, f5⟩ := hf it (by simp)
    have pt : s.heap.IsTuple a its.toArray := p
    have hl := rv.length
    have nea : a ≠ it := fun z => by
      obtain ⟨o1, q1, c1, d1⟩ := hit
      obtain ⟨o2, q2, c2, _⟩ := p
      rw [z, q1] at q2
      cases q2
      rw [c1] at c2
      exact absurd (Value.type.inj c2) (by decide)
    have hA : X.A.in1.handled = none := I.ok.hd hc
    have ei : its.toArray.size = i := by simp; omega
    refine wpAny_pyNext_enum_endD (Draws.tuple hA it a nea its.toArray) he (by rw [ei]; exact ⟨hit, pt⟩) fun h' eb => ⟨rfl, I.turned (t' := s.toks) (fun b o hb q => eb b o hb q) f0 f1 f3 f4 f5⟩
  self := fun A i s Q E st h => let ⟨⟨_, he⟩, _⟩ := st; wpAny_pyIter_enum he h
def iEnumT (K : PySem.W.Frag) (ta : TA) : TI := fun σ H R => ta σ H fun vs H1 => ∃ a xs, vs = [.ref a] ∧ SqT K H1 a xs ∧ R (IteT K a) H1
theorem pi_enumT {X : Cx} {e : Expr} {ta : TA} {p pos tpos : Pos} {elts : List Expr} {kk : Nat} (hg : Gl X "enumerate") (hm : X.mg "enumerate" = none) (ha : PA X [e] ta) (hs : starEach [e] X.env = [(false, eval e X.env)] := by rfl) :
    PI X (.Tuple elts kk tpos) (.Call (.Name "enumerate" p) [e] [] pos) (iEnumT X.K ta) := by
  refine ⟨fun pins s σ H R I h => ?_⟩
  refine Call_ (ld_blt I hg hm boot_enumerate (PyProof.Rows.callWith_type1 (thn (ha.run pos pins s σ H _ I h) fun us s1 ⟨vs, H1, I1, r1, q1⟩ => ?_) hs rfl))
  obtain ⟨a, xs, ex, hq, q⟩ := q1
  subst ex
  cases r1 with
  | cons r rr =>
    cases rr
    cases r
    obtain ⟨its, rv, p', hz⟩ := I1.tuple hq
    refine k6_enumerate_tuple (show s1.heap.IsTuple a its.toArray from p') fun h' he hit hsz hk => wpAny_pyIter_enum he ?_
    have I2 : Inv X pins σ H1 { s1 with heap := h' } := I1.kept (t' := s1.toks) hk
    refine ⟨s1.heap.objs.size + 1, [s1.heap.objs.size + 1, s1.heap.objs.size], _, _, H1, rfl, I2, turn_enumT a (s1.heap.objs.size + 1) s1.heap.objs.size, ⟨⟨.none, he⟩, hit, Nat.succ_ne_self _⟩, fun b hb => ?_, q⟩
    have e' : b = s1.heap.objs.size + 1 ∨ b = s1.heap.objs.size := by simpa using hb
    have hle : s1.heap.objs.size ≤ b := by
      rcases e' with z | z
      · rw [z]; exact Nat.le_add_right _ _
      · rw [z]; exact Nat.le_refl _
    exact I1.fpOk hle (I1.hok.fresh hle)
theorem walk_enumT {K : PySem.W.Frag} {a : Addr} {xs : List V} : Walk (IteT K a) xs.length (fun H => SqT K H a xs) (YPair (fun i => some (.int (i : Nat))) (fun i => xs[i]?)) := by
  refine ⟨fun i _ hi q => ⟨xs, xs[i], q, by simp [hi]⟩, fun _ q => ⟨xs, q, rfl⟩, fun i H v H' _ q y => ?_⟩
  obtain ⟨T, x, h1, h2, h3, h4⟩ := y
  exact ⟨T, .int (i : Nat), x, h1, h2, h3, rfl, h4 xs q⟩

/-! ### plain tuples: the very object is known -/
def PT (H : Hp) (p : Addr) (xs : List V) : Prop := ∃ o : Obj, H p = some (.frz o (.tup xs)) ∧ o.cls = .type "tuple" ∧ o.dict = none
theorem PT.sq {K : PySem.W.Frag} {H : Hp} {p : Addr} {xs : List V} (h : PT H p xs) : SqT K H p xs := let ⟨o, e, _⟩ := h; .inl (.inr ⟨o, e⟩)
theorem PT.gx {a : Ad} {S : List Addr} {H H' : Hp} {p : Addr} {xs : List V} (g : Gx a S H H') (h : PT H p xs) (hp : p ∉ S) : PT H' p xs := let ⟨o, e, r⟩ := h; ⟨o, g.keep p _ e hp rfl, r⟩
theorem PT.gr {a : Ad} {H H' : Hp} {p : Addr} {xs : List V} (g : Gr a H H') (h : PT H p xs) : PT H' p xs := h.gx g (by simp)
theorem Gx.sqT {a : Ad} {K : PySem.W.Frag} {H H' : Hp} (x : Gr a H H') {b : Addr} {xs : List V} (h : SqT K H b xs) : SqT K H' b xs := by
  rcases h with (h | ⟨o, h⟩) | h
  · exact .inl (.inl (Gr.tup x h))
  · exact .inl (.inr ⟨o, x.keep _ _ h (by simp) rfl⟩)
  · exact .inr h
section
variable {X : Cx}
/-- tuple(list): a plain tuple -/
theorem call_tupleF : CallR X (.type "tuple") (fun xs H Q => ∃ p ys, xs = [.ref p] ∧ SqL X.K H p ys ∧ ∀ l H', H l = none → PT H' l ys → (∀ b, b ≠ l → H' b = H b) → (∃ o, H' = upd H l (.frz o (.tup ys))) → Q (.ref l) H') := by
  intro pins s σ H xs us Q I r h
  obtain ⟨p, ys, rfl, hq, q⟩ := h
  obtain ⟨u, rfl, rx⟩ := vals1 r
  cases rx
  obtain ⟨its, r', pl, hz⟩ := I.list hq
  have hlen := r'.length
  refine call_tuple_list pl.isList (fun h' kp => ?_) (by simp only [List.size_toArray] <;> omega)
  have I1 : Inv X pins σ H { s with heap := h' } := I.kept (t' := s.toks) kp
  have ne : ∀ b, b ≠ h'.objs.size → upd H h'.objs.size (.frz { cls := .type "tuple", data := .seq its.toArray } (.tup ys)) b = H b := fun b hb => upd_ne hb
  have I2 : Inv X pins σ (upd H h'.objs.size (.frz { cls := .type "tuple", data := .seq its.toArray } (.tup ys))) { s with heap := h'.push { cls := .type "tuple", data := .seq its.toArray } } :=
    I1.laid (t' := s.toks) (fun b o e => Heap.get?_push_of_some _ e) (Nat.le_refl _)
      (show ObjOk X.prog X.w _ _ _ (.frz { cls := .type "tuple", data := .seq its.toArray } (.tup ys)) from ⟨Heap.get?_push_size _ rfl, hz, its, r', IsTup.new _ _⟩)
  exact ⟨.ref h'.objs.size, _, I2, rfl, q _ _ (I1.hok.fresh (Nat.le_refl _)) ⟨_, upd_same, rfl, rfl⟩ ne ⟨_, rfl⟩⟩
/-- dict(plain tuple of pairs) -/
theorem call_dictPT (hcalm : X.calm = true) : CallR X (.type "dict") (fun xs H Q => ∃ (a : Addr) (ps : List Addr) (kvs : List (Key × V)), xs = [.ref a] ∧ PT H a (ps.map V.ref) ∧ Paired (fun p kv => SqT X.K H p [kV kv.1, kv.2]) ps kvs ∧
    ∀ p, H p = none → Q (.ref p) (upd H p (.dK (mergeK [] kvs)))) := by
  intro pins s σ H xs us Q I r q
  obtain ⟨a, ps, kvs, ex, hq, hp, q⟩ := q
  subst ex
  obtain ⟨u, eu, rx⟩ := vals1 r
  subst eu
  cases rx
  obtain ⟨its, rv, pl, hz⟩ := I.tuple hq.sq
  have ei := refs_at rv
  subst ei
  rw [List.length_map] at hz
  obtain ⟨prs, rel, hl, hpr⟩ := pairs_of I hp
  obtain ⟨o, ho, hc, hd⟩ := hq
  obtain ⟨ho1, _⟩ := I.hok a _ ho
  obtain ⟨o', ho', _, n, hdat⟩ := pl
  rw [ho1] at ho'
  cases ho'
  obtain ⟨f, hf⟩ := Classical.axiomOfChoice (r := fun (j : Nat) (u : Value) => ∀ q, prs[j]? = some q → ∃ b, ps[j]? = some b ∧ IsTup s.heap b #[u, q.2] ∧ keyIs q.1 u = true) fun j => by
    cases e : prs[j]? with
    | none => exact ⟨.none, fun q z => by cases z⟩
    | some q =>
      obtain ⟨b, u, e1, e2, e3⟩ := hpr j q e
      exact ⟨u, fun q' z => by cases z; exact ⟨b, e1, e2, e3⟩⟩
  have kvl : ((List.range prs.length).map fun j => (f j, ((prs[j]?).map Prod.snd).getD Value.none)).length = prs.length := by simp
  have kva : ∀ j q, prs[j]? = some q → ((List.range prs.length).map fun j => (f j, ((prs[j]?).map Prod.snd).getD Value.none))[j]? = some (f j, q.2) := fun j q e => by
    have hj := (List.getElem?_eq_some_iff.mp e).1
    rw [List.getElem?_map, List.getElem?_range hj]
    simp [e]
  have kvb : ∀ j x, ((List.range prs.length).map fun j => (f j, ((prs[j]?).map Prod.snd).getD Value.none))[j]? = some x → ∃ q, prs[j]? = some q ∧ x = (f j, q.2) := fun j x e => by
    have hj : j < prs.length := by
      have := (List.getElem?_eq_some_iff.mp e).1
      simpa using this
    refine ⟨prs[j], List.getElem?_eq_getElem hj, ?_⟩
    rw [kva j _ (List.getElem?_eq_getElem hj)] at e
    exact (Option.some.inj e).symm
  have hh : X.A.handled = none := I.ok.hd hcalm
  refine PySem.call_dict_pairs (knd := mixKind X.prog X.w) (kvs := prs)
    (PairArg.tuple a _ (fun j => ps.getD j 0) ((List.range prs.length).map fun j => (f j, ((prs[j]?).map Prod.snd).getD Value.none))) hh
    ⟨⟨o, n, ho1, hc, hd, hdat⟩, ?_, fun j k v e => ?_⟩ ⟨kvl.symm, fun i k v e => ?_⟩ (by rw [kvl, hl]; exact hz) fun h' tk hd' hk => ?_
  · rw [kvl, hl]; simp
  · obtain ⟨q', e1, e2⟩ := kvb j _ e
    cases e2
    obtain ⟨b, e3, e4, e5⟩ := hf j q' e1
    have eb : ps.getD j 0 = b := by simp [List.getD, e3]
    show _ = some (Value.ref (ps.getD j 0)) ∧ PairAt s.heap (ps.getD j 0) (f j) q'.2
    rw [eb]
    exact ⟨by simp [e3], .inl e4⟩
  · obtain ⟨q', e1, e2⟩ := kvb i _ e
    cases e2
    obtain ⟨b, e3, e4, e5⟩ := hf i q' e1
    exact ⟨q'.1, e1, e5⟩
  · have hm : (s.heap.objs.size == sysModules) = false := beq_eq_false_iff_ne.mpr (Nat.ne_of_gt I.big)
    have hlen : (mergeK [] kvs).length ≤ sizeLine := by
      refine Nat.le_trans (length_mergeK kvs []) ?_
      rw [List.length_nil, Nat.zero_add, rel.length, hl]
      exact hz
    exact ⟨.ref s.heap.objs.size, upd H s.heap.objs.size (.dK (mergeK [] kvs)), I.laid (t' := tk) (fun b o e => hk b o (by simp) e) (Nat.le_refl _) (show ObjOk X.prog X.w _ _ _ (.dK (mergeK [] kvs)) from ⟨hlen, hm, merged [] prs, KV.merge rel .nil, hd'⟩), rfl, q _ (I.hok.fresh (Nat.le_refl _))⟩
/-- a method of a plain tuple -/
def tBMt (r : V → List V → Hp → VK → Prop) (to : TE) (t : TA) : TE := fun σ H Q => to σ H fun x H1 => (∃ p ys, x = .ref p ∧ PT H1 p ys) ∧ t σ H1 fun xs H2 => r x xs H2 Q
theorem pe_bmT {name : Str} {id : String} {r : V → List V → Hp → VK → Prop} {e o : Expr} {es : List Expr} {apos cpos : Pos} {to : TE} {t : TA} (slot : Slot "tuple" name id) (hty : typeOf (.builtin id) = pure (.type "method_descriptor")) (hm : MtR X id r) (ho : PE X o to) (ha : PA X (e :: es) t)
    (hbase : attributeBase o name X.env (eval o X.env) = eval o X.env := by rfl)
    (hfew : ((backTo cpos (starEach (e :: es) X.env)).all (fun x => !x.1) && (backToKw cpos (keywordEach [] X.env)).all (fun x => x.1.isSome)
      && decide ((e :: es).length + ([] : List Keyword).length + (if ([] : List Keyword).isEmpty then 0 else 1) < 30)) = true := by rfl)
    (hline : (apos.endLine == cpos.line) = true := by rfl) (hs : starEach (e :: es) X.env = (false, eval e X.env) :: starEach es X.env := by rfl) (hplain : (backTo cpos (starEach es X.env)).any (·.1) = false := by rfl) :
    PE X (.Call (.Attribute o name apos) (e :: es) [] cpos) (tBMt r to t) := by
  refine ⟨fun pins s σ H Q I h => ?_⟩
  refine wpAny_Call_method_late hbase hfew hline rfl (thn (ho.run pins s σ H _ I h) fun v s1 ⟨x, H1, I1, r1, ty, q1⟩ => ?_)
  obtain ⟨p, ys, rfl, ob, e1, e2, e3⟩ := ty
  cases r1
  obtain ⟨g, _⟩ := I1.hok p _ e1
  refine ⟨"tuple", id, PySem.F.plainAttrs_tuple, slot, hty, ⟨ob, g, e2⟩, fun a q => ?_, ?_⟩
  · cases q
    exact ⟨ob, g, e3⟩
  have hA := ha.run cpos pins s1 σ H1 _ I1 q1
  rw [hs] at hA ⊢
  refine Calls.callWith_builtin (by show (false || (backTo cpos (starEach es X.env)).any (·.1)) = false; rw [hplain] <;> rfl) (Calls.evalArgs_plain ?_)
  exact thn hA fun us s2 ⟨vs, H2, I2, r2, q2⟩ => hm pins s2 σ H2 (.ref p) vs (.ref p) us Q I2 rfl r2 q2
end
end K6

/-! ## KGen -/
set_option maxRecDepth 100000
set_option maxHeartbeats 4000000
/-! any, all of a generator expression over a list or a tuple. -/
namespace K6
open PySem PySem.Spec PyProof.Rows L2
section
variable {X : Cx} {pins : List (Addr × Obj)} {σ : L2.St} {H : Hp} {s : Shared}
/-- the element as a test of the item, wherever the generator wakes: C says of the def's slots, its heap and the item what the test is -/
def EltC (X : Cx) (P : Addr) (scope : Scope) (x : Str) (elt : Expr) (C : L2.St → Hp → V → Bool → Prop) : Prop :=
  ∀ (pins : List (Addr × Obj)) (σ : L2.St) (H : Hp) (s : Shared) (v : V) (u : Value) (b : Bool), L2.Inv X pins σ H s → GxR.TabG H P → C σ H v b → RelV v u →
    ∀ (L : Addr) (code : Value) (bi : Addr) (A' : Around) (E' : Value → Shared → Prop) (s₂ : Shared) (m₂ : Str → Option Value),
      A'.handled = none → A'.depth ≤ X.A.depth + 1 → A'.units ≤ X.A.units + 8 → s₂.heap.Ns L m₂ → m₂ x = some u → (∀ b o, b ≠ P → s.heap.get? b = some o → s₂.heap.get? b = some o) →
      wpAny (model X.prog X.w) A' (eval elt (genEnv scope (cloFrom X.env.cells scope.names []) L code bi X.env)) (fun y s₃ => y = .bool b ∧ Keeps s₂ s₃) E' s₂
/-- the test at place j -/
def trV (pb : V → Bool) (l : List V) (j : Nat) : Bool := match l[j]? with
  | some b => pb b
  | none => false
theorem trV_some {pb : V → Bool} {l : List V} {j : Nat} {b : V} (h : l[j]? = some b) : trV pb l j = pb b := by
  unfold trV
  rw [h]
theorem any_trV (l : List V) (pb : V → Bool) : (List.range l.length).any (trV pb l) = l.any pb := by
  rw [Bool.eq_iff_iff, List.any_eq_true, List.any_eq_true]
  constructor
  · intro ⟨j, hj, h⟩
    have hj' := List.mem_range.mp hj
    rw [trV_some (List.getElem?_eq_getElem hj')] at h
    exact ⟨l[j], List.getElem_mem hj', h⟩
  · intro ⟨b, hb, h⟩
    obtain ⟨j, hj, e⟩ := List.getElem_of_mem hb
    refine ⟨j, List.mem_range.mpr hj, ?_⟩
    rw [trV_some (List.getElem?_eq_getElem hj), e]
    exact h
theorem all_trV (l : List V) (pb : V → Bool) : (List.range l.length).all (trV pb l) = l.all pb := by
  rw [Bool.eq_iff_iff, List.all_eq_true, List.all_eq_true]
  constructor
  · intro h b hb
    obtain ⟨j, hj, e⟩ := List.getElem_of_mem hb
    have q := h j (List.mem_range.mpr hj)
    rw [trV_some (List.getElem?_eq_getElem hj), e] at q
    exact q
  · intro h j hj
    have hj' := List.mem_range.mp hj
    rw [trV_some (List.getElem?_eq_getElem hj')]
    exact h _ (List.getElem_mem hj')
theorem keeps_refl (s : Shared) : Keeps s s := ⟨s.heap, s.toks, rfl, fun _ _ e => e⟩
/-- the generator g over xs, ready to be walked, in the state s5 -/
def ReadyV (X : Cx) (pins : List (Addr × Obj)) (σ : L2.St) (H1 : Hp) (P : Addr) (xs : List V) (pb : V → Bool) (g : Addr) (s5 : Shared) : Prop :=
  ∃ (fp wr : List Addr) (G : Array GenState → Array GenState → Prop) (F : Nat → Value → Prop) (St : Nat → Shared → Prop),
    WalksS X.prog X.w X.A.in1 g fp wr G xs.length F St ∧ St 0 s5 ∧
    TruthOf X.prog X.w X.A.in1 F (trV pb xs) ∧
    ∀ s', Moved wr G s5 s' → ∃ H2, GxR.Tabbed P H1 H2 ∧ L2.Inv X pins σ H2 s'

theorem gen_core {c P : Addr} {elt : Expr} {x : Str} {gpos : Pos} {scope : Scope} {C : L2.St → Hp → V → Bool → Prop} {k : Nat} {Q' : Value → Shared → Prop}
    (hr : Room k X.A) (TB : GxR.TabB X.base X.mg c P) (hcode : X.env.code = .ref c) (S : GxR.GenS X.env scope x) (hel : EltC X P scope x elt C)
    {s1 : Shared} {H1 : Hp} (I1 : L2.Inv X pins σ H1 s1) {o : Obj} {St : Nat → Heap → Prop} {ax : Addr} {its : List Value} {xs : List V} {pb : V → Bool} (hT : GxR.TabG H1 P)
    (rv : Vals xs its) (hC : ∀ v ∈ xs, C σ H1 v (pb v)) (hax : ax < s1.heap.objs.size) (haP : ax ≠ P) (ho : o.isFreed = false)
    (W : ∀ A' : Around, A'.handled = none → Walks X.prog X.w A' s1.heap.objs.size [s1.heap.objs.size, ax] [s1.heap.objs.size] its.toArray.size (fun i v => its.toArray[i]? = some v) St)
    (hst : St 0 (s1.heap.push o))
    (hQ : ∀ g s5, ReadyV X pins σ H1 P xs pb g s5 → Q' (.ref g) s5) :
    (s1.heap.push o).NoLimit ∧ wpAny (model X.prog X.w) X.A (genexprCode X.env gpos (X.env.qual ++ "<genexpr>") scope) (fun code s₃ => wpAny (model X.prog X.w) X.A (builtinsFor X.env.globals X.env.builtins) (fun bi s₄ =>
        ∃ I fp wr n₀ Pf St₀ pz F, Value.ref s1.heap.objs.size = .ref I ∧ (∀ A' : Around, A'.handled = none → Walks X.prog X.w A' I fp wr n₀ Pf St₀) ∧ St₀ 0 s₄.heap ∧ (∀ b ∈ fp, b < s₄.heap.objs.size) ∧ s₄.heap.NoLimit ∧ cStatics ∉ wr ∧
          (∀ href : Heap, (∀ b o, s₄.heap.get? b = some o → href.get? b = some o) →
            QuietGenD X.prog X.w (genEnv scope (cloFrom X.env.cells scope.names []) s₄.heap.objs.size code bi X.env) x [] elt (List.range s₄.heap.objs.size) wr Pf pz F href (X.A.depth + 1) (X.A.units + 8)) ∧
          (∀ a h₅ tk gs, gs.bare = true → s₄.heap.objs.size < a → h₅.objs.size = a + 1 → (∀ b o, s₄.heap.get? b = some o → h₅.get? b = some o) →
            WalksS X.prog X.w X.A.in4 a (a :: s₄.heap.objs.size :: List.range s₄.heap.objs.size) (s₄.heap.objs.size :: wr) (GenOnlyQ s₄.gens.size) (passing pz n₀ 0).length
              (fun j y => ∃ i, (passing pz n₀ 0)[j]? = some i ∧ F i y) (GenAt X.prog X.w X.A.in4 a s₄.gens.size s₄.heap.objs.size (List.range s₄.heap.objs.size) wr pz n₀ F) →
            GenAt X.prog X.w X.A.in4 a s₄.gens.size s₄.heap.objs.size (List.range s₄.heap.objs.size) wr pz n₀ F 0 { s₄ with gens := s₄.gens.push gs, toks := tk, heap := h₅ } →
            Q' (.ref a) { s₄ with gens := s₄.gens.push gs, toks := tk, heap := h₅ })) X.xe s₃) X.xe { s1 with heap := s1.heap.push o } := by
  obtain ⟨ps, hP, ht⟩ := id hT
  have hPs : s1.heap.get? P = some { cls := .none, data := .fields ps } := I1.hok P _ hP
  have hPlt : P < s1.heap.objs.size := Heap.lt_size hPs
  have hP2 : (s1.heap.push o).get? P = some { cls := .none, data := .fields ps } := Heap.get?_push_of_some _ hPs
  have cd : PySem.W.CodeHd (s1.heap.push o) c P := TB.code.keeps fun b u e => Heap.get?_push_of_some _ (I1.bk b u e)
  have lim2 : (s1.heap.push o).NoLimit := I1.nolimit.push o
  have lenv : xs.length = its.length := rv.length
  have cont : ∀ (code : Value) (h3 : Heap) (tk : Nat) (ps' : Array Value), Heap.ExtBut P (s1.heap.push o) h3 → (s1.heap.push o).objs.size ≤ h3.objs.size → h3.get? P = some { cls := .none, data := .fields ps' } → (∃ more, ps' = ps ++ more) → TriplesOk ps'.toList →
      wpAny (model X.prog X.w) X.A (builtinsFor X.env.globals X.env.builtins) (fun bi s₄ =>
        ∃ Ia fp wr n₀ Pf St₀ pz F, Value.ref s1.heap.objs.size = .ref Ia ∧ (∀ A' : Around, A'.handled = none → Walks X.prog X.w A' Ia fp wr n₀ Pf St₀) ∧ St₀ 0 s₄.heap ∧ (∀ b ∈ fp, b < s₄.heap.objs.size) ∧ s₄.heap.NoLimit ∧ cStatics ∉ wr ∧
          (∀ href : Heap, (∀ b o, s₄.heap.get? b = some o → href.get? b = some o) →
            QuietGenD X.prog X.w (genEnv scope (cloFrom X.env.cells scope.names []) s₄.heap.objs.size code bi X.env) x [] elt (List.range s₄.heap.objs.size) wr Pf pz F href (X.A.depth + 1) (X.A.units + 8)) ∧
          (∀ a h₅ tk gs, gs.bare = true → s₄.heap.objs.size < a → h₅.objs.size = a + 1 → (∀ b o, s₄.heap.get? b = some o → h₅.get? b = some o) →
            WalksS X.prog X.w X.A.in4 a (a :: s₄.heap.objs.size :: List.range s₄.heap.objs.size) (s₄.heap.objs.size :: wr) (GenOnlyQ s₄.gens.size) (passing pz n₀ 0).length
              (fun j y => ∃ i, (passing pz n₀ 0)[j]? = some i ∧ F i y) (GenAt X.prog X.w X.A.in4 a s₄.gens.size s₄.heap.objs.size (List.range s₄.heap.objs.size) wr pz n₀ F) →
            GenAt X.prog X.w X.A.in4 a s₄.gens.size s₄.heap.objs.size (List.range s₄.heap.objs.size) wr pz n₀ F 0 { s₄ with gens := s₄.gens.push gs, toks := tk, heap := h₅ } →
            Q' (.ref a) { s₄ with gens := s₄.gens.push gs, toks := tk, heap := h₅ })) X.xe { s1 with heap := h3, toks := tk } := by
    intro code h3 tk ps' hx hsz hP3 hmore ht3
    obtain ⟨bm, ob, e1, e2, e3, e4, e5, e6, e7, e8⟩ := TB.bm
    have hcP : cStatics ≠ P := fun e => by
      obtain ⟨_, hns, _⟩ := I1.nolimit
      obtain ⟨o', es, ep, ho, hd, _⟩ := hns
      rw [e, hPs] at ho
      cases ho
      cases hd
    have hcl : cStatics < s1.heap.objs.size := let ⟨_, hns, _⟩ := I1.nolimit; hns.lt
    have sz2 : (s1.heap.push o).objs.size = s1.heap.objs.size + 1 := Heap.size_push ..
    have keep3 : ∀ b u, b ≠ P → s1.heap.get? b = some u → h3.get? b = some u := fun b u hb e => hx b u hb (Heap.get?_push_of_some _ e)
    refine wpAny_builtinsFor (m := X.mg) (by rw [I1.ok.glob]; exact ((I1.mod.glob.keeps I1.bk).push o).extBut hx TB.gP) e1 e2 (keep3 _ _ e4 (I1.bk _ _ e5)) e6 e7 e8 ?_
    refine ⟨s1.heap.objs.size, [s1.heap.objs.size, ax], [s1.heap.objs.size], its.toArray.size, (fun i v => its.toArray[i]? = some v), St, (fun _ => true), (fun i y => ∃ v, xs[i]? = some v ∧ y = .bool (pb v)), rfl, W, ?_, ?_, lim2.extBut hx hcP, ?_, ?_, ?_⟩
    · refine (W X.A hr.hd).frame _ _ _ hst fun b hb u e => hx b u (fun z => ?_) e
      rcases List.mem_cons.mp hb with z2 | z2
      · exact Nat.ne_of_lt hPlt (z.symm.trans z2)
      · rw [List.mem_singleton.mp z2] at z
        exact haP z
    · intro b hb
      rcases List.mem_cons.mp hb with z | z
      · rw [z]
        show s1.heap.objs.size < h3.objs.size
        omega
      · rw [List.mem_singleton.mp z]
        show ax < h3.objs.size
        exact Nat.lt_of_lt_of_le hax (Nat.le_trans (by omega) hsz)
    · intro z
      rcases List.mem_cons.mp z with z | z
      · exact Nat.ne_of_lt hcl z
      · cases z
    · intro href hhref
      refine ⟨fun A' E' i v s₂ m₂ hA hD hU hPv hn hm hk => ?_, fun A' E' i v s₂ m₂ hA hD hU hPv hp hn hm hk => ?_⟩
      · simp only [List.forIn_nil]
        exact wpAny_pure ⟨rfl, keeps_refl _⟩
      · have hPv' : its[i]? = some v := by simpa using hPv
        have hi : i < xs.length := by
          rw [lenv]
          exact (List.getElem?_eq_some_iff.mp hPv').1
        obtain ⟨u, hu, ru⟩ := rv.get (List.getElem?_eq_getElem hi)
        rw [hPv'] at hu
        cases hu
        refine wpAny_mono (hel pins σ H1 s1 xs[i] v (pb xs[i]) I1 hT (hC _ (List.getElem_mem hi)) ru _ code _ A' E' s₂ m₂ hA hD hU hn hm fun b u hb e => ?_) (fun y s3 r => ⟨⟨xs[i], List.getElem?_eq_getElem hi, r.1⟩, r.2⟩) fun _ _ e => e
        have hbl : b < h3.objs.size := Heap.lt_size (keep3 b u hb e)
        refine hk b (List.mem_range.mpr hbl) (fun z => ?_) u (hhref b u (keep3 b u hb e))
        rcases List.mem_cons.mp z with z | z
        · have := Heap.lt_size e
          rw [z] at this
          exact Nat.lt_irrefl _ this
        · cases z
    · intro g h5 tk5 gs hgb hag hsz5 hk5 W5 hat
      simp only [GxR.passing_true, List.length_range] at W5
      have hsz9 : its.toArray.size = xs.length := by simp [lenv]
      rw [hsz9] at W5 hat
      refine hQ g _ ⟨_, _, _, _, _, W5.in4_1, hat, ?_, fun s' hm => ?_⟩
      · intro j y sj Qj Ej hy hQj
        obtain ⟨i, hij, v, hv, rfl⟩ := hy
        obtain ⟨hj, ej⟩ := List.getElem?_eq_some_iff.mp hij
        rw [List.getElem_range] at ej
        subst ej
        have hQ2 : Qj (trV pb xs j) sj := hQj
        rw [trV_some hv] at hQ2
        exact wpAny_truthy_bool hQ2
      · obtain ⟨more, em⟩ := hmore
        have nwr : ∀ b u, s1.heap.get? b = some u → b ∉ h3.objs.size :: [s1.heap.objs.size] := fun b u e hb => by
          have hl := Heap.lt_size e
          rcases List.mem_cons.mp hb with z | z
          · rw [z] at hl
            have h9 : (h3.objs.size : Nat) < s1.heap.objs.size := hl
            omega
          · rcases List.mem_cons.mp z with z | z
            · rw [z] at hl
              exact Nat.lt_irrefl _ hl
            · cases z
        have J := GxR.inv_tab (more := more) (h' := s'.heap) (g' := s'.gens) (d' := s'.drawn) (t' := s'.toks) I1 hP (fun b u hb e => hm.heap b u (nwr b u e) (hk5 b u (keep3 b u hb e)))
          (by rw [← em]; exact hm.heap P _ (nwr P _ hPs) (hk5 P _ hP3)) (AllBare.movedS (I1.bare.push hgb) hm)
        rw [GxR.sh_eta s1 s' hm.os] at J
        refine ⟨upd H1 P (.tbl (ps ++ more)), ⟨⟨ps ++ more, upd_same, by rw [← em]; exact ht3⟩, fun b hb => upd_ne hb⟩, J⟩
  refine ⟨lim2, ?_⟩
  cases hf : codeAmong gpos ps.toList with
  | none =>
    refine wpAny_genexprCodeX hcode (cd.code hP2 ht) (cd.tab hP2) hf fun c' h' tk hx hge hlt hco' _ htab' _ => ?_
    obtain ⟨o1, vs, f1, tf, fl, tg, inF, tx, tt, op, _, _, _, _, _, _, _, _, _, htr, _⟩ := hco'
    exact cont _ h' tk _ hx (Nat.le_trans hge (Nat.le_of_lt hlt)) htab'.2 ⟨_, rfl⟩ htr
  | some cv =>
    refine wpAny_genexprCode_hit hcode (cd.code hP2 ht) hf ?_
    exact cont cv (s1.heap.push o) s1.toks ps (Heap.ExtBut.refl _ _) (Nat.le_refl _) hP2 ⟨#[], by simp⟩ ht

theorem gen_seq {c P : Addr} {elt iter : Expr} {x : Str} {px gpos : Pos} {scope : Scope} {C : L2.St → Hp → V → Bool → Prop} {te : TE} {k : Nat} {Q' : Value → Shared → Prop} {R : List V → (V → Bool) → Hp → Prop}
    (hr : Room k X.A) (TB : GxR.TabB X.base X.mg c P) (hcode : X.env.code = .ref c) (S : GxR.GenS X.env scope x) (hi : PE X iter te) (hel : EltC X P scope x elt C)
    (hs : ∀ v, genFold iter X.env v = pure v) (I : L2.Inv X pins σ H s)
    (h : te σ H fun v H1 => ∃ (p : Addr) (xs : List V) (pb : V → Bool), v = .ref p ∧ (SqL X.K H1 p xs ∨ SqT X.K H1 p xs) ∧ GxR.TabG H1 P ∧ (∀ v ∈ xs, C σ H1 v (pb v)) ∧ R xs pb H1)
    (hQ : ∀ xs pb H1 g s5, R xs pb H1 → ReadyV X pins σ H1 P xs pb g s5 → Q' (.ref g) s5) :
    wpAny (model X.prog X.w) X.A (eval (.GeneratorExp elt [⟨.Name x px, iter, [], 0⟩] scope gpos) X.env) Q' X.xe s := by
  refine wpAny_GeneratorExp_walksQD hr.hd S.co (closure_ok S.free) S.cell S.dot S.loc S.kind (by have := hr.dp; omega) ?_ hs
  refine thn (hi.run pins s σ H _ I h) fun xv s1 ⟨v, H1, I1, r1, q1⟩ => ?_
  obtain ⟨p, xs, pb, rfl, hq, hT, hC, q1⟩ := q1
  cases r1
  rcases hq with hq | hq
  · obtain ⟨its, rv, pl, hz⟩ := I1.list hq
    have hL := pl.isList
    have hp : p < s1.heap.objs.size := by obtain ⟨_, e, _⟩ := hL; exact Heap.lt_size e
    have hpP : p ≠ P := fun z => by
      obtain ⟨ps, hP, _⟩ := hT
      have hPs : s1.heap.get? P = some { cls := .none, data := .fields ps } := I1.hok P _ hP
      obtain ⟨o1, e1, c1, _⟩ := hL
      rw [z, hPs] at e1
      cases e1
      cases c1
    refine wpAny_pyIter_list hL ?_
    exact gen_core hr TB hcode S hel I1 (o := { cls := .type "list_iterator", data := .fields #[.ref p, .int 0 0] }) (ax := p) hT rv hC hp hpP rfl (fun A' hA => Walks.list hA _ _ (Nat.ne_of_lt hp) _)
      ⟨⟨_, Heap.get?_push_size _ rfl, rfl, rfl⟩, hL.at fun o e => Heap.get?_push_of_some _ e⟩ fun g s5 hG => hQ xs pb H1 g s5 q1 hG
  · obtain ⟨its, rv, pl, hz⟩ := I1.tuple hq
    have hL : s1.heap.IsTuple p its.toArray := pl
    have hp : p < s1.heap.objs.size := by obtain ⟨_, e, _⟩ := hL; exact Heap.lt_size e
    have hpP : p ≠ P := fun z => by
      obtain ⟨ps, hP, _⟩ := hT
      have hPs : s1.heap.get? P = some { cls := .none, data := .fields ps } := I1.hok P _ hP
      obtain ⟨o1, e1, c1, _⟩ := hL
      rw [z, hPs] at e1
      cases e1
      cases c1
    refine wpAny_pyIter_tuple hL ?_
    exact gen_core hr TB hcode S hel I1 (o := { cls := .type "tuple_iterator", data := .fields #[.ref p, .int 0 0] }) (ax := p) hT rv hC hp hpP rfl (fun A' hA => Walks.tuple hA _ _ (Nat.ne_of_lt hp) _)
      ⟨⟨_, Heap.get?_push_size _ rfl, rfl, rfl⟩, hL.at fun o e => Heap.get?_push_of_some _ e⟩ fun g s5 hG => hQ xs pb H1 g s5 q1 hG

def tAnyV (K : PySem.W.Frag) (P : Addr) (C : L2.St → Hp → V → Bool → Prop) (te : TE) : TE := fun σ H Q => te σ H fun v H1 => ∃ (p : Addr) (xs : List V) (pb : V → Bool), v = .ref p ∧ (SqL K H1 p xs ∨ SqT K H1 p xs) ∧ GxR.TabG H1 P ∧ (∀ v ∈ xs, C σ H1 v (pb v)) ∧
  ∀ H2, GxR.Tabbed P H1 H2 → Q (.bl (xs.any pb)) H2
def tAllV (K : PySem.W.Frag) (P : Addr) (C : L2.St → Hp → V → Bool → Prop) (te : TE) : TE := fun σ H Q => te σ H fun v H1 => ∃ (p : Addr) (xs : List V) (pb : V → Bool), v = .ref p ∧ (SqL K H1 p xs ∨ SqT K H1 p xs) ∧ GxR.TabG H1 P ∧ (∀ v ∈ xs, C σ H1 v (pb v)) ∧
  ∀ H2, GxR.Tabbed P H1 H2 → Q (.bl (xs.all pb)) H2
theorem pe_anyV {c P : Addr} {elt iter : Expr} {x : Str} {px p pos gpos : Pos} {scope : Scope} {C : L2.St → Hp → V → Bool → Prop} {te : TE} {k : Nat}
    (hr : Room k X.A) (hg : Gl X "any") (hm : X.mg "any" = none) (TB : GxR.TabB X.base X.mg c P) (hcode : X.env.code = .ref c) (S : GxR.GenS X.env scope x) (hi : PE X iter te) (hel : EltC X P scope x elt C)
    (hs : ∀ v, genFold iter X.env v = pure v)
    (he : starEach [.GeneratorExp elt [⟨.Name x px, iter, [], 0⟩] scope gpos] X.env = (false, eval (.GeneratorExp elt [⟨.Name x px, iter, [], 0⟩] scope gpos) X.env) :: starEach [] X.env := by rfl) :
    PE X (.Call (.Name "any" p) [.GeneratorExp elt [⟨.Name x px, iter, [], 0⟩] scope gpos] [] pos) (tAnyV X.K P C te) := by
  refine ⟨fun pins s σ H Q I h => ?_⟩
  refine wpAny_Call_Name_kw (ld_blt I hg hm PyProof.Rows.boot_any ?_)
  refine PyProof.Rows.callWith_builtin1 ?_ he (by rfl)
  rw [he]
  show wpAny _ _ (spliced ((false, eval (.GeneratorExp elt [⟨.Name x px, iter, [], 0⟩] scope gpos) X.env) :: backTo pos (starEach [] X.env))) _ _ s
  refine Calls.spliced_cons (gen_seq (R := fun xs pb H1 => ∀ H2, GxR.Tabbed P H1 H2 → Q (.bl (xs.any pb)) H2) hr TB hcode S hi hel hs I h fun xs pb H1 g s5 hR hG => ?_)
  obtain ⟨fp, wr, G, F, St, W, hst, htr, hI⟩ := hG
  refine Calls.spliced_nil ?_
  refine call_any_walkS (W.self 0 _ _ _ hst ⟨g, fp, wr, G, _, F, St, _, rfl, W, hst, htr, fun s' hmv => ?_⟩)
  obtain ⟨H2, hT, J⟩ := hI s' hmv
  refine ⟨.bl _, H2, J, rfl, ?_⟩
  rw [any_trV xs pb]
  exact hR H2 hT
theorem pe_allV {c P : Addr} {elt iter : Expr} {x : Str} {px p pos gpos : Pos} {scope : Scope} {C : L2.St → Hp → V → Bool → Prop} {te : TE} {k : Nat}
    (hr : Room k X.A) (hg : Gl X "all") (hm : X.mg "all" = none) (TB : GxR.TabB X.base X.mg c P) (hcode : X.env.code = .ref c) (S : GxR.GenS X.env scope x) (hi : PE X iter te) (hel : EltC X P scope x elt C)
    (hs : ∀ v, genFold iter X.env v = pure v)
    (he : starEach [.GeneratorExp elt [⟨.Name x px, iter, [], 0⟩] scope gpos] X.env = (false, eval (.GeneratorExp elt [⟨.Name x px, iter, [], 0⟩] scope gpos) X.env) :: starEach [] X.env := by rfl) :
    PE X (.Call (.Name "all" p) [.GeneratorExp elt [⟨.Name x px, iter, [], 0⟩] scope gpos] [] pos) (tAllV X.K P C te) := by
  refine ⟨fun pins s σ H Q I h => ?_⟩
  refine wpAny_Call_Name_kw (ld_blt I hg hm PyProof.Rows.boot_all ?_)
  refine PyProof.Rows.callWith_builtin1 ?_ he (by rfl)
  rw [he]
  show wpAny _ _ (spliced ((false, eval (.GeneratorExp elt [⟨.Name x px, iter, [], 0⟩] scope gpos) X.env) :: backTo pos (starEach [] X.env))) _ _ s
  refine Calls.spliced_cons (gen_seq (R := fun xs pb H1 => ∀ H2, GxR.Tabbed P H1 H2 → Q (.bl (xs.all pb)) H2) hr TB hcode S hi hel hs I h fun xs pb H1 g s5 hR hG => ?_)
  obtain ⟨fp, wr, G, F, St, W, hst, htr, hI⟩ := hG
  refine Calls.spliced_nil ?_
  refine call_all_walkS (W.self 0 _ _ _ hst ⟨g, fp, wr, G, _, F, St, _, rfl, W, hst, htr, fun s' hmv => ?_⟩)
  obtain ⟨H2, hT, J⟩ := hI s' hmv
  refine ⟨.bl _, H2, J, rfl, ?_⟩
  rw [all_trV xs pb]
  exact hR H2 hT
/-- an untracked thing of the def's is no table -/
theorem ne_tab {P b : Addr} (hT : GxR.TabG H P) (n : H b = none) : b ≠ P := fun z => by
  obtain ⟨ps, e, _⟩ := hT
  rw [z, e] at n
  cases n
/-- a captured name, read where the generator wakes -/
theorem free_look {P : Addr} {scope : Scope} {y : Str} {i : Nat} {v : V} (I : L2.Inv X pins σ H s) (hT : GxR.TabG H P) (hN : X.N[i]? = some y) (hv : σ[i]? = some (some v)) (hc : X.env.scope.names.lookup y = some .cell)
    (hf : scope.names.lookup y = some .free) (hfree : ∀ y ∈ scope.names, y.2 = .free → ∃ c, X.env.cells.lookup y.1 = some c) {s₂ : Shared} (kp : ∀ b o, b ≠ P → s.heap.get? b = some o → s₂.heap.get? b = some o) :
    ∃ c u, (cloFrom X.env.cells scope.names []).lookup y = some c ∧ s₂.heap.IsCell c (some u) ∧ RelV v u := by
  obtain ⟨m, hn, hl⟩ := I.loc
  obtain ⟨u, ru, l⟩ := hl i y v hN hv (.inr (.inl hc))
  rcases l with ⟨hk, _⟩ | ⟨hk, c, hcc, hcell⟩
  · rw [show X.env.kindOf y = some .cell from hc] at hk
    cases hk
  · have hy : (y, NameKind.free) ∈ scope.names := PySem.mem_of_lookup hf
    obtain ⟨c', e⟩ := mem_lookup (cloFrom_has (cells := X.env.cells) (acc := []) hy)
    have ec : c' = c := by
      rcases cloFrom_mem (PySem.mem_of_lookup e) with hm | ⟨h1, h2⟩
      · cases hm
      · rw [h2, hcc]
        rfl
    refine ⟨c', u, e, ?_, ru⟩
    rw [ec]
    obtain ⟨o, ho, hd⟩ := hcell
    exact ⟨o, kp c o (ne_tab hT (I.freeC y c hcc)) ho, hd⟩
theorem free_by {sc scope : Scope} {n : Nat} (h : (scope.names.all fun y => !decide (y.2 = .free) || decide (sc.names.lookup y.1 = some .cell)) = true) : ∀ y ∈ scope.names, y.2 = .free → ∃ c, (cellsFrom n sc.names []).lookup y.1 = some c := fun y hy e => by
  have q := List.all_eq_true.mp h y hy
  rw [decide_eq_true e] at q
  exact cell_has (of_decide_eq_true (by simpa using q))
theorem keeps_tok (s : Shared) (k : Nat) : Keeps s { s with toks := k } := ⟨s.heap, k, rfl, fun _ _ e => e⟩
theorem Keeps.trans {s s1 s2 : Shared} (x : Keeps s s1) (y : Keeps s1 s2) : Keeps s s2 := by
  obtain ⟨h1, t1, rfl, k1⟩ := x
  obtain ⟨h2, t2, rfl, k2⟩ := y
  exact ⟨h2, t2, rfl, fun b o e => k2 b o (k1 b o e)⟩
/-- count < 0 -/
theorem elt_neg {P : Addr} {scope : Scope} {x : Str} {j : Nat} {p1 p2 p3 : Pos} (hk : scope.kind = .function) (hl : scope.names.lookup x = some .local) (hd : (x == ("__debug__" : Str)) = false := by decide) :
    EltC X P scope x (.Compare (.Name x p1) [.Lt] [.Constant (.int 0) j p2] p3) (fun _ _ v b => ∃ i : Int, v = .int i ∧ b = decide (i < 0)) := by
  intro pins σ H s v u b I hT hC r L code bi A' E' s₂ m₂ hA hD hU hn hm kp
  obtain ⟨i, rfl, rfl⟩ := hC
  obtain ⟨t, rfl⟩ := r
  refine wpAny_Compare1 ?_
  refine wpAny_Name (wpAny_loadName_local hk hl hn hm ?_) hd
  refine wpAny_Constant_int ?_
  exact lt_int ⟨rfl, keeps_tok _ _⟩
/-- not 0 <= one < many -/
theorem elt_out {P : Addr} {scope : Scope} {x y : Str} {i j : Nat} {p1 p2 p3 p4 p5 : Pos} (hk : scope.kind = .function) (hl : scope.names.lookup x = some .local) (hN : X.N[i]? = some y) (hc : X.env.scope.names.lookup y = some .cell)
    (hf : scope.names.lookup y = some .free) (hfree : ∀ y ∈ scope.names, y.2 = .free → ∃ c, X.env.cells.lookup y.1 = some c) (hd : (x == ("__debug__" : Str)) = false := by decide) (hd2 : (y == ("__debug__" : Str)) = false := by decide) (hcd : (y == ("__classdict__" : Str)) = false := by decide) :
    EltC X P scope x (.UnaryOp .Not (.Compare (.Constant (.int 0) j p1) [.LtE, .Lt] [.Name x p2, .Name y p3] p4) p5) (fun σ _ v b => ∃ k m : Int, v = .int k ∧ σ[i]? = some (some (.int m)) ∧ b = !(decide (0 ≤ k) && decide (k < m))) := by
  intro pins σ H s v u b I hT hC r L code bi A' E' s₂ m₂ hA hD hU hn hm kp
  obtain ⟨k, m, rfl, hv, rfl⟩ := hC
  obtain ⟨t, rfl⟩ := r
  obtain ⟨c, u, e1, e2, e3⟩ := free_look I hT hN hv hc hf hfree kp
  obtain ⟨t', rfl⟩ := e3
  refine UnaryOp_ ?_
  refine Compare_chain ?_ (by with_unfolding_all rfl)
  refine wpAny_Constant_int ?_
  refine chain_link ?_
  refine wpAny_Name (wpAny_loadName_local hk hl hn hm ?_) hd
  refine le_int ?_
  refine wpAny_truthy_bool ?_
  by_cases h : (0 : Int) ≤ k
  · rw [decide_eq_true h]
    refine ite_tt (chain_last ?_)
    refine wpAny_Name (wpAny_loadName_free hk hf e1 e2 ?_ hcd) hd2
    refine lt_int ?_
    exact not_of (wpAny_truthy_bool ⟨by simp, keeps_tok _ _⟩)
  · rw [decide_eq_false h]
    refine ite_ff ?_
    exact not_of (wpAny_truthy_bool ⟨by simp, keeps_tok _ _⟩)
end
end K6

/-! ## KWish -/
set_option maxRecDepth 100000
set_option maxHeartbeats 4000000
/-! Wishes. -/
namespace K6
open PySem PySem.Spec PyProof.Rows L2
theorem bt_len : bootBuiltins "len" = some (.builtin "len") := by decide +kernel
theorem bt_tuple : bootBuiltins "tuple" = some (.type "tuple") := by decide +kernel
theorem bt_dict : bootBuiltins "dict" = some (.type "dict") := by decide +kernel
theorem bt_list : bootBuiltins "list" = some (.type "list") := by decide +kernel
theorem bt_int : bootBuiltins "int" = some (.type "int") := by decide +kernel
theorem bt_sorted : bootBuiltins "sorted" = some (.builtin "sorted") := by decide +kernel
theorem bt_max : bootBuiltins "max" = some (.builtin "max") := by decide +kernel
theorem bt_abs : bootBuiltins "abs" = some (.builtin "abs") := by decide +kernel

def natV (o : List Nat) : List V := o.map fun n => V.int (n : Nat)
/-- the ranks of a list, from k on -/
def rkF : Nat → List Nat → List (Key × V)
  | _, [] => []
  | k, n :: r => (Sum.inl (n : Int), V.int (k : Nat)) :: rkF (k + 1) r
theorem rkF_len : ∀ (k : Nat) (o : List Nat), (rkF k o).length = o.length
  | _, [] => rfl
  | k, n :: r => by
    show (rkF (k + 1) r).length + 1 = r.length + 1
    rw [rkF_len]
theorem rkF_keys : ∀ (k : Nat) (o : List Nat), (rkF k o).map (·.1) = o.map fun n : Nat => (Sum.inl (n : Int) : Key)
  | _, [] => rfl
  | k, n :: r => by
    show Sum.inl (n : Int) :: (rkF (k + 1) r).map (·.1) = _
    rw [rkF_keys]
    rfl
theorem rkF_val : ∀ (k : Nat) (o : List Nat) (n : Nat), valV (rkF k o) (Sum.inl (n : Int) : Key) = if n ∈ o then some (V.int ((k + o.idxOf n : Nat) : Int)) else none
  | _, [], n => rfl
  | k, m :: r, n => by
    show valV ((Sum.inl (m : Int), V.int (k : Nat)) :: rkF (k + 1) r) _ = _
    by_cases h : m = n
    · subst h
      rw [valV_pos rfl, if_pos (List.mem_cons_self ..)]
      simp
    · have hk : ¬ (Sum.inl (m : Int) : Key) = Sum.inl (n : Int) := fun z => h (by have := Sum.inl.inj z; omega)
      rw [valV_neg (p := (Sum.inl (m : Int), V.int (k : Nat))) hk, rkF_val (k + 1) r n]
      by_cases hr : n ∈ r
      · rw [if_pos hr, if_pos (List.mem_cons_of_mem _ hr), List.idxOf_cons]
        have e : (m == n) = false := by simp [h]
        rw [e]
        simp
        omega
      · rw [if_neg hr, if_neg fun z => ?_]
        rcases List.mem_cons.mp z with z | z
        · exact h z.symm
        · exact hr z
theorem mergeK_app : ∀ (kvs acc : List (Key × V)), (kvs.map (·.1)).Nodup → (∀ k, k ∈ kvs.map (·.1) → valV acc k = none) → mergeK acc kvs = acc ++ kvs
  | [], acc, _, _ => by simp [mergeK]
  | p :: r, acc, h, hn => by
    obtain ⟨h1, h2⟩ := List.nodup_cons.mp (show (p.1 :: r.map (·.1)).Nodup from h)
    have e : mergeK acc (p :: r) = mergeK (putK acc p.1 p.2) r := rfl
    have hp := hn p.1 (List.mem_cons_self ..)
    rw [e, mergeK_app r _ h2 fun k hk => ?_, putK_new _ hp, List.append_assoc]
    · rfl
    · rw [valV_put, if_neg fun z => h1 (by rw [← z]; exact hk)]
      exact hn k (List.mem_cons_of_mem _ hk)
theorem mergeK_nodup {kvs : List (Key × V)} (h : (kvs.map (·.1)).Nodup) : mergeK [] kvs = kvs := mergeK_app kvs [] h fun _ _ => rfl
theorem rkF_nodup {k : Nat} {o : List Nat} (h : o.Nodup) : ((rkF k o).map (·.1)).Nodup := by
  rw [rkF_keys]
  exact List.Pairwise.map (fun n : Nat => (Sum.inl (n : Int) : Key)) (fun (a b : Nat) (hab : a ≠ b) z => hab (by have := Sum.inl.inj z; omega)) h

def wf (t d : Addr) : List (Str × V) := [("order", .ref t), ("ranks", .ref d)]
theorem wf_order (t d : Addr) : (wf t d).lookup ("order" : Str) = some (V.ref t) := lk1
theorem wf_ranks (t d : Addr) : (wf t d).lookup ("ranks" : Str) = some (V.ref d) := lk2 (by decide +kernel) lk1
theorem wf_no (t d : Addr) {m : Str} (h1 : ¬ m = "order") (h2 : ¬ m = "ranks") : (wf t d).lookup m = none := lk0 h1 (lk0 h2 lkn)
/-- a Wish stands at p: its list is o -/
def WishAt (a : Ad) (H : Hp) (p : Addr) (o : List Nat) : Prop :=
  ∃ dx t d, H p = some (.ins a.cW dx (wf t d)) ∧ H t = some (.tup (natV o)) ∧ H d = some (.dK (rkF 0 o))
theorem WishAt.gx {a : Ad} {S : List Addr} {H H' : Hp} {p : Addr} {o : List Nat} (g : Gx a S H H') (h : WishAt a H p o) (hS : ∀ b, b ∈ S → (∃ xs, H b = some (.lst xs)) ∨ (∃ C dx fs, H b = some (.ins C dx fs) ∧ C ≠ a.cW)) : WishAt a H' p o := by
  obtain ⟨dx, t, d, h1, h2, h3⟩ := h
  refine ⟨dx, t, d, g.ins h1 fun z => ?_, g.tup h2 fun z => ?_, g.dk h3 fun z => ?_⟩
  · rcases hS _ z with ⟨_, e⟩ | ⟨C, _, _, e, n⟩
    · rw [h1] at e; cases e
    · rw [h1] at e; cases e; exact n rfl
  · rcases hS _ z with ⟨_, e⟩ | ⟨_, _, _, e, _⟩ <;> (rw [h2] at e; cases e)
  · rcases hS _ z with ⟨_, e⟩ | ⟨_, _, _, e, _⟩ <;> (rw [h3] at e; cases e)
theorem WishAt.gr {a : Ad} {H H' : Hp} {p : Addr} {o : List Nat} (g : Gr a H H') (h : WishAt a H p o) : WishAt a H' p o := h.gx g fun _ z => by cases z

def spHas (a : Ad) : Sp := fun vs H Q _ => ∃ (p : Addr) (o : List Nat) (n : Nat), vs = [.ref p, .int (n : Nat)] ∧ WishAt a H p o ∧ Q (.bl (decide (n ∈ o))) H
/-- the rank of one, or of nothing -/
def rkV (o : List Nat) : Option Nat → V
  | none => .int (o.length : Nat)
  | some n => if n ∈ o then .int (o.idxOf n : Nat) else .non
def optV : Option Nat → V
  | none => .non
  | some n => .int (n : Nat)
def spRank (a : Ad) : Sp := fun vs H Q _ => ∃ (p : Addr) (o : List Nat) (x : Option Nat), vs = [.ref p, optV x] ∧ WishAt a H p o ∧ Q (rkV o x) H
def betterB (o : List Nat) (x y : Option Nat) : Bool :=
  match rkV o x, rkV o y with
  | .int i, .int j => decide (i < j)
  | .int _, _ => true
  | _, _ => false
def spBetter (a : Ad) : Sp := fun vs H Q _ => ∃ (p : Addr) (o : List Nat) (x y : Option Nat), vs = [.ref p, optV x, optV y] ∧ WishAt a H p o ∧ Q (.bl (betterB o x y)) H
def spWInit (a : Ad) : Sp := fun vs H Q _ => ∃ (p dx t : Addr) (o : List Nat), vs = [.ref p, .ref t] ∧ H p = some (.ins a.cW dx []) ∧ H t = some (.tup (natV o)) ∧ o.Nodup ∧ o.length ≤ 100 ∧
  ∀ H', WishAt a H' p o → Gx a [p] H H' → Q .non H'

section
variable {P : Program} {w : World} {K : PySem.W.Frag} {mg : Str → Option Value} {base : Heap} {a : Ad}
theorem sc_W_has : FnScope ["self", "one"] ["self", "one"] (defScope s_W_has) := ⟨rfl, rfl, rfl, by decide +kernel, rfl, by decide +kernel, by decide +kernel⟩
theorem ok_W_has (T : Txt K mg base a) : FnOk P w K mg base CX0 1 a.f_W_has a.d_W_has ["self", "one"] (spHas a) := by
  refine T.F_W_has.ok sc_W_has (fun vs H Q E h => ?_) (fun cdv A outer s H vs Q E hr h => ?_)
  · obtain ⟨p, o, n, rfl, _⟩ := h
    rfl
  · obtain ⟨p, o, n, rfl, ⟨dx, t, d, h1, h2, h3⟩, k⟩ := h
    have hu := hu_of hr
    -- return one in self.ranks
    refine ⟨_, pss_one (ps_ret (pe_cmp (pc_din hu (pv 1) (pe_fld (pv 0) rfl)) rfl)), ?_⟩
    refine ⟨_, rfl, _, rfl, p, a.cW, dx, _, _, rfl, h1, T.cl_W, T.n_W_ranks, wf_ranks _ _, d, _, rfl, DGet.k (k := Sum.inl (n : Int)) h3, ?_⟩
    have e : (valV (rkF 0 o) (Sum.inl (n : Int) : Key)).isSome = decide (n ∈ o) := by
      rw [rkF_val]
      by_cases h : n ∈ o
      · rw [if_pos h, decide_eq_true h]; rfl
      · rw [if_neg h, decide_eq_false h]; rfl
    show Q (V.bl (valV (rkF 0 o) (Sum.inl (n : Int) : Key)).isSome) H
    rw [e]
    exact k
theorem sc_W_rank : FnScope ["self", "one"] ["self", "one"] (defScope s_W_rank) := ⟨rfl, rfl, rfl, by decide +kernel, rfl, by decide +kernel, by decide +kernel⟩
theorem ok_W_rank (T : Txt K mg base a) : FnOk P w K mg base CX0 1 a.f_W_rank a.d_W_rank ["self", "one"] (spRank a) := by
  refine T.F_W_rank.ok sc_W_rank (fun vs H Q E h => ?_) (fun cdv A outer s H vs Q E hr h => ?_)
  · obtain ⟨p, o, x, rfl, _⟩ := h
    rfl
  · obtain ⟨p, o, x, rfl, ⟨dx, t, d, h1, h2, h3⟩, k⟩ := h
    have hu := hu_of hr
    -- return len(self.order) if one is None else self.ranks.get(one)
    refine ⟨_, pss_one (ps_ret (pe_ifExp (pt_cmpR op_isN (pv 1) pe_non (nomark _)) (pe_callB call_len_seq (by rfl) T.z_len bt_len (pa_cons (pe_fld (pv 0) rfl) pa_nil)) (pe_dget1 hu (pe_fld (pv 0) rfl) (pv 1) ⟨rfl, rfl, rfl, rfl⟩))), ?_⟩
    refine ⟨_, rfl, rfl, _, rfl, ?_⟩
    cases x with
    | none =>
      refine iteT ?_
      refine ⟨_, rfl, p, a.cW, dx, _, _, rfl, h1, T.cl_W, T.n_W_order, wf_order _ _, t, _, rfl, .inr (SqT.of h2), ?_⟩
      have e : (natV o).length = o.length := List.length_map ..
      show Q (V.int (natV o).length) H
      rw [e]
      exact k
    | some n =>
      refine iteF ?_
      refine ⟨_, rfl, p, a.cW, dx, _, _, rfl, h1, T.cl_W, T.n_W_ranks, wf_ranks _ _, d, rfl, .inl ⟨_, .inl h3⟩, _, rfl, _, DGet.k (k := Sum.inl (n : Int)) h3, ?_⟩
      have e : (valV (rkF 0 o) (Sum.inl (n : Int) : Key)).getD V.non = rkV o (some n) := by
        rw [rkF_val]
        show _ = if n ∈ o then V.int (o.idxOf n : Nat) else V.non
        by_cases h : n ∈ o
        · rw [if_pos h, if_pos h]; simp
        · rw [if_neg h, if_neg h]; rfl
      rw [e]
      exact k
theorem sc_W_better : FnScope ["self", "one", "other", "left", "right"] ["self", "one", "other"] (defScope s_W_better) := ⟨rfl, rfl, rfl, by decide +kernel, rfl, by decide +kernel, by decide +kernel⟩
theorem ok_W_better (T : Txt K mg base a) : FnOk P w K mg base CX0 2 a.f_W_better a.d_W_better ["self", "one", "other"] (spBetter a) := by
  have G : FnOk P w K mg base CX0 1 a.f_W_rank a.d_W_rank ["self", "one"] (spRank a) := ok_W_rank T
  refine T.F_W_better.ok sc_W_better (fun vs H Q E h => ?_) (fun cdv A outer s H vs Q E hr h => ?_)
  · obtain ⟨p, o, x, y, rfl, _⟩ := h
    rfl
  · obtain ⟨p, o, x, y, rfl, W, k⟩ := h
    obtain ⟨dx, t, d, h1, h2, h3⟩ := id W
    have nr : (wf t d).lookup ("rank" : Str) = none := wf_no _ _ (by decide +kernel) (by decide +kernel)
    -- left, right = (self.rank(one), self.rank(other)); return left is not None and (right is None or left < right)
    refine ⟨_, pss_cons (ps_par (i := 3) (j := 4) rfl sc_W_better.nd rfl rfl (by decide) rfl rfl (pa_cons (pe_meth (pv 0) T.cl_W T.m_W_rank G hr T.b_W_rank .nil pass0 (pa_cons (pv 1) pa_nil)) (pa_cons (pe_meth (pv 0) T.cl_W T.m_W_rank G hr T.b_W_rank .nil pass0 (pa_cons (pv 2) pa_nil)) pa_nil)) (by rfl))
      (pss_one (ps_ret (pe_and (pe_cmpR op_notN (pv 3) pe_non (nomark _)) (pe_one (pe_or (pe_cmpR op_isN (pv 4) pe_non (nomark _)) (pe_one (pe_cmpR op_lt (pv 3) (pv 4) (nomark _)))))))), ?_⟩
    refine ⟨_, rfl, p, dx, _, rfl, h1, nr, _, rfl, p, o, x, rfl, W, _, rfl, p, dx, _, rfl, h1, nr, _, rfl, p, o, y, rfl, W, _, _, rfl, ?_⟩
    refine ⟨_, rfl, rfl, _, rfl, ?_⟩
    have cs : ∀ z : Option Nat, rkV o z = V.non ∨ ∃ i : Nat, rkV o z = V.int i := fun z => by
      cases z with
      | none => exact .inr ⟨_, rfl⟩
      | some n =>
        show (if n ∈ o then _ else _) = _ ∨ ∃ i : Nat, (if n ∈ o then _ else _) = _
        by_cases h : n ∈ o
        · rw [if_pos h]; exact .inr ⟨_, rfl⟩
        · rw [if_neg h]; exact .inl rfl
    unfold betterB at k
    rcases cs x with ex | ⟨i, ex⟩
    · rw [ex] at k ⊢
      refine iteF ?_
      exact k
    · rw [ex] at k ⊢
      refine iteT ?_
      refine ⟨_, rfl, rfl, _, rfl, ?_⟩
      rcases cs y with ey | ⟨j, ey⟩
      · rw [ey] at k ⊢
        refine iteT ?_
        exact k
      · rw [ey] at k ⊢
        refine iteF ?_
        exact ⟨_, rfl, _, rfl, _, _, rfl, rfl, k⟩
theorem sc_W_init : FnScope ["self", "order", "place", "one"] ["self", "order"] (defScope s_W_init) := ⟨rfl, rfl, rfl, by decide +kernel, rfl, by decide +kernel, by decide +kernel⟩
theorem natV_get {o : List Nat} {i : Nat} {x : V} (h : (natV o)[i]? = some x) : ∃ n : Nat, o[i]? = some n ∧ x = V.int (n : Nat) := by
  unfold natV at h
  rw [List.getElem?_map] at h
  cases e : o[i]? with
  | none => rw [e] at h; cases h
  | some n => rw [e] at h; exact ⟨n, rfl, (Option.some.inj h).symm⟩
theorem natV_len (o : List Nat) : (natV o).length = o.length := List.length_map ..
theorem natV_snoc (o : List Nat) (n : Nat) : natV o ++ [V.int (n : Nat)] = natV (o ++ [n]) := by simp [natV]
theorem rkF_snoc : ∀ (k : Nat) (o : List Nat) (n : Nat), rkF k (o ++ [n]) = rkF k o ++ [(Sum.inl (n : Int), V.int ((k + o.length : Nat) : Int))]
  | _, [], _ => rfl
  | k, m :: r, n => by
    show (Sum.inl (m : Int), V.int (k : Nat)) :: rkF (k + 1) (r ++ [n]) = (Sum.inl (m : Int), V.int (k : Nat)) :: (rkF (k + 1) r ++ _)
    rw [rkF_snoc (k + 1) r n]
    have e : k + 1 + r.length = k + (m :: r).length := by simp; omega
    rw [e]
theorem take_snoc {α : Type} {l : List α} {i : Nat} {x : α} (h : l[i]? = some x) : l.take (i + 1) = l.take i ++ [x] := by
  rw [List.take_add_one, h]
  rfl
theorem paired_snoc {α β : Type} {F : α → β → Prop} {x : α} {y : β} (h : F x y) : ∀ {l : List α} {k : List β}, Paired F l k → Paired F (l ++ [x]) (k ++ [y])
  | _, _, .nil => .cons h .nil
  | _, _, .cons r t => .cons r (paired_snoc h t)
theorem tYes_ok {σ : L2.St} {H : Hp} {Q : Bool → Hp → Prop} (h : Q true H) : tYes σ H Q := h
theorem nl_ne {H : Hp} {p q : Addr} {o : HO} (h : H p = some o) (n : H q = none) : p ≠ q := ne_of_none h n
theorem ok_W_init (T : Txt K mg base a) : FnOk P w K mg base CX0 1 a.f_W_init a.d_W_init ["self", "order"] (spWInit a) := by
  refine T.F_W_init.ok sc_W_init (fun vs H Q E h => ?_) (fun cdv A outer s H vs Q E hr h => ?_)
  · obtain ⟨p, dx, t, o, rfl, _⟩ := h
    rfl
  · obtain ⟨p, dx, t, o, rfl, hp, ht, nd, hl, k⟩ := h
    have hl2 : (natV o).length ≤ sizeLine := by rw [natV_len]; exact Nat.le_trans hl (by decide)
    refine ⟨_, pss_cons (ps_fld (pv 0) (pe_callTy call_tupleT (by rfl) T.z_tuple bt_tuple (pa_cons (pv 1) pa_nil)) rfl)
      (pss_one (ps_fld (pv 0) (pe_callTy (call_dictP rfl) (by rfl) T.z_dict bt_dict (pa_cons
        (pe_lc (own := [("place", 2), ("one", 3)]) (g := gTup K 2 (gCons (gName 2) (gCons (gName 3) gNil))) (tt := tYes) rfl sc_W_init.nd (pi_enumT (by rfl) T.z_enumerate (pa_cons (pe_fld (pv 0) rfl) pa_nil)) (blkOk_by (N := ["self", "order", "place", "one"]) (sc := defScope s_W_init) (by decide +kernel))
          (fun _ _ _ _ _ => pg_tup rfl (pgs_cons (pg_name (i := 2) sc_W_init.nd rfl (Or.inl rfl)) (pgs_cons (pg_name (i := 3) sc_W_init.nd rfl (Or.inl rfl)) pgs_nil))) (fun _ _ _ _ _ => pts_nil)
          (fun _ _ _ _ _ => pe_tup (pa_cons (pv 3) (pa_cons (pv 2) pa_nil)))) pa_nil)) rfl)), ?_⟩
    refine ⟨_, rfl, t, _, rfl, SqT.of ht, _, rfl, p, a.cW, dx, _, rfl, hp, T.cl_W, T.n_W_order, (by show 0 < 1000; decide), ?_⟩
    have hp1 : upd H p (HO.ins a.cW dx (putF "order" (V.ref t) [])) p = some (.ins a.cW dx [("order", V.ref t)]) := upd_same
    have ntp : t ≠ p := ne_of ht hp (by intro z; cases z)
    generalize hH1 : upd H p (HO.ins a.cW dx (putF "order" (V.ref t) [])) = H1 at hp1 ⊢
    have g1 : Gx a [p] H H1 := by rw [← hH1]; exact Gx.set hp rfl (by simp)
    have ht1 : H1 t = some (.tup (natV o)) := g1.tup ht (by simp [ntp])
    refine ⟨_, rfl, p, a.cW, dx, _, _, rfl, hp1, T.cl_W, T.n_W_order, lk1, t, _, rfl, SqT.of ht1, fun D nD => ?_⟩
    refine lc_it (walk_enumT (K := K) (a := t) (xs := natV o)) (fun i H' => ∃ (ps : List Addr), Gr a H1 H' ∧ H' D = some (.lst (ps.map V.ref)) ∧ Paired (fun p kv => H' p = some (.tup [kV kv.1, kv.2])) ps (rkF 0 (o.take i)) ∧ ps.length = i)
      ⟨[], Gx.new nD, upd_same, .nil, rfl⟩ (fun i H' _ ⟨_, g, _, _, _⟩ => SqT.of (Gr.tup g ht1)) ?_ ?_
    · rintro i x H' H2 hi ⟨ps, g, hD, hp, hpl⟩ ⟨T', y1, y2, rfl, nT, rfl, e1, e2⟩
      cases e1
      obtain ⟨n, hn, rfl⟩ := natV_get e2
      rw [natV_len] at hi
      refine ⟨T', _, rfl, SqT.of upd_same, rfl, _, _, rfl, _, _, rfl, rfl, rfl, ?_⟩
      refine tYes_ok ?_
      refine iteT ?_
      refine ⟨_, rfl, _, rfl, (by show 2 ≤ sizeLine; decide), fun T2 nT2 => ?_⟩
      have nTD : T' ≠ D := (ne_of_none hD nT).symm
      have hD2 : upd (upd H' T' (.tup [V.int (i : Nat), V.int (n : Nat)])) T2 (.tup [V.int (n : Nat), V.int (i : Nat)]) D = some (.lst (ps.map V.ref)) := new_keep (new_keep hD nT) nT2
      refine ⟨_, hD2, by rw [List.length_map, hpl]; exact Nat.lt_of_lt_of_le hi (by rw [natV_len] at hl2; exact hl2), ps ++ [T2], ?_, ?_, ?_, ?_⟩
      · exact Gx.app ((g.trans (Gx.new nT)).trans (Gx.new nT2)) nD hD2 rfl
      · rw [upd_same, List.map_append]; rfl
      · rw [take_snoc hn, rkF_snoc]
        refine paired_snoc ?_ (Paired.mapP hp fun p kv h => upd_tup (new_keep (new_keep h nT) nT2) hD2)
        have e : 0 + (o.take i).length = i := by rw [List.length_take]; omega
        rw [e]
        exact upd_tup upd_same hD2
      · rw [List.length_append, hpl]; rfl
    · rintro H' ⟨ps, g, hD, hp, hpl⟩
      rw [natV_len, List.take_length] at hp
      refine ⟨D, ps, rkF 0 o, rfl, SqL.of hD, Paired.mapP hp fun p kv h => SqT.of h, fun d nd' => ?_⟩
      have hp2 := new_keep (o := .dK (mergeK [] (rkF 0 o))) (Gr.ins g hp1) nd'
      rw [mergeK_nodup (rkF_nodup nd)] at hp2 ⊢
      have ndp : d ≠ p := fun z => by rw [z, Gr.ins g hp1] at nd'; cases nd'
      refine ⟨_, rfl, p, a.cW, dx, _, rfl, hp2, T.cl_W, T.n_W_ranks, (by show 1 < 1000; decide), ?_⟩
      refine k _ ⟨dx, t, d, ?_, ?_, ?_⟩ ?_
      · rw [upd_same, pf2 (by decide +kernel) pf0]; rfl
      · rw [upd_ne ntp]; exact new_keep (Gr.tup g ht1) nd'
      · rw [upd_ne ndp, upd_same]
      · exact (g1.trans (g.to.trans (Gx.new nd'))).trans (Gx.set hp2 rfl (by simp))
end
end K6

/-! ## KList -/
set_option maxRecDepth 100000
set_option maxHeartbeats 4000000
/-! check_list, all_lists. -/
namespace K6
open PySem PySem.Spec PyProof.Rows L2
/-- a list or a tuple of numbers stands at p -/
def Seq1 (H : Hp) (p : Addr) (xs : List V) : Prop := H p = some (.lst xs) ∨ H p = some (.tup xs)
theorem Seq1.gr {a : Ad} {H H' : Hp} {p : Addr} {xs : List V} (g : Gr a H H') (h : Seq1 H p xs) : Seq1 H' p xs := h.elim (fun h => .inl (Gr.lst g h)) fun h => .inr (Gr.tup g h)
/-- tuple(x) of a list or a tuple -/
theorem call_tupleS {X : Cx} (a : Ad) : CallR X (.type "tuple") (fun xs H Q => ∃ p ys, xs = [.ref p] ∧ Seq1 H p ys ∧ ∀ t H1, Gr a H H1 → H1 t = some (.tup ys) → Q (.ref t) H1) := by
  intro pins s σ H xs us Q I r h
  obtain ⟨p, ys, rfl, hp, q⟩ := h
  refine call_tuple_of pins s σ H _ us Q I r ⟨p, ys, rfl, ?_⟩
  rcases hp with hp | hp
  · exact .inl ⟨SqL.of hp, fun l nl => q l _ (Gx.new nl) upd_same⟩
  · exact .inr ⟨SqT.of hp, q p H Gx.refl hp⟩
def spCheckList (a : Ad) : Sp := fun vs H Q _ => ∃ (p : Addr) (o : List Nat) (m : Nat), vs = [.ref p, .int (m : Nat)] ∧ Seq1 H p (natV o) ∧ o.Nodup ∧ (∀ n, n ∈ o → n < m) ∧ o.length ≤ 100 ∧ Tb a H ∧
  ∀ t H', Gr a H H' → H' t = some (.tup (natV o)) → Q (.ref t) H'
section
variable {P : Program} {w : World} {K : PySem.W.Frag} {mg : Str → Option Value} {base : Heap} {a : Ad}
/-- the keys of a dict of ones -/
def onesN (o : List Nat) : List (Key × V) := o.map fun n : Nat => ((Sum.inl (n : Int) : Key), V.int 1)
theorem onesN_keys {o : List Nat} (h : o.Nodup) : ((onesN o).map (·.1)).Nodup := by
  unfold onesN
  rw [List.map_map]
  exact List.Pairwise.map (fun n : Nat => (Sum.inl (n : Int) : Key)) (fun (a b : Nat) (hab : a ≠ b) z => hab (by have := Sum.inl.inj z; omega)) h
theorem sc_g_check_list : FnScope ["order", "many", "found", "one"] ["order", "many"] (defScope s_g_check_list) := ⟨rfl, rfl, rfl, by decide +kernel, rfl, by decide +kernel, by decide +kernel⟩
theorem ok_check_list (T : Txt K mg base a) : FnOk P w K mg base CX0 1 a.f_g_check_list a.d_g_check_list ["order", "many"] (spCheckList a) := by
  refine T.F_g_check_list.ok sc_g_check_list (fun vs H Q E h => ?_) (fun A outer s H vs Q E hr h => ?_)
  · obtain ⟨p, o, m, rfl, _⟩ := h
    rfl
  · obtain ⟨p, o, m, rfl, hp, nd, hlt, hl, tb, k⟩ := h
    have hl2 : (natV o).length ≤ sizeLine := by rw [natV_len]; exact Nat.le_trans hl (by decide)
    refine ⟨_, pss_cons (ps_set (i := 2) sc_g_check_list.nd rfl (Or.inl rfl) (pe_callTy (call_tupleS a) (by rfl) T.z_tuple bt_tuple (pa_cons (pv 0) pa_nil)))
      (pss_cons (ps_if (pt_cmpR op_ne (pe_callB call_lenD (by rfl) T.z_len bt_len (pa_cons (pe_callTy (call_dictP rfl) (by rfl) T.z_dict bt_dict (pa_cons
          (pe_lc (own := [("one", 3)]) (g := gName 3) (tt := tYes) rfl sc_g_check_list.nd (pi_tup (pv 2)) (blkOk_by (N := ["order", "many", "found", "one"]) (sc := defScope s_g_check_list) (by decide +kernel))
            (fun _ _ _ _ _ => pg_name (i := 3) sc_g_check_list.nd rfl (Or.inl rfl)) (fun _ _ _ _ _ => pts_nil) (fun _ _ _ _ _ => pe_tup (pa_cons (pv 3) (pa_cons pe_int pa_nil)))) pa_nil)) pa_nil))
          (pe_callB call_len_seq (by rfl) T.z_len bt_len (pa_cons (pv 2) pa_nil)) (nomark _)) pss_never pss_nil)
      (pss_cons (ps_if (pt_val (pe_anyV hr (by rfl) T.z_any T.t1 rfl ⟨rfl, rfl, by decide +kernel, rfl, rfl, free_by (sc := defScope s_g_check_list) (by decide +kernel)⟩ (pv 2)
          (elt_out (i := 1) rfl rfl rfl rfl rfl (free_by (sc := defScope s_g_check_list) (by decide +kernel))) (fun _ => rfl))) pss_never pss_nil)
      (pss_one (ps_ret (pv 2))))), ?_⟩
    refine ⟨_, rfl, p, _, rfl, hp, fun t H1 g1 ht => ?_⟩
    refine ⟨_, rfl, t, rfl, ⟨_, SqT.of ht⟩, fun D nD => ?_⟩
    refine lc_tup (K := K) (a := t) (xs := natV o) (fun i H' => ∃ (ps : List Addr), Gr a H1 H' ∧ H' D = some (.lst (ps.map V.ref)) ∧ Paired (fun p kv => H' p = some (.tup [kV kv.1, kv.2])) ps (onesN (o.take i)) ∧ ps.length = i)
      ⟨[], Gx.new nD, upd_same, .nil, rfl⟩ (fun i H' _ ⟨_, g, _, _, _⟩ => SqT.of (Gr.tup g ht)) ?_ ?_
    · rintro i x H' e2 ⟨ps, g, hD, hp, hpl⟩
      obtain ⟨n, hn, rfl⟩ := natV_get e2
      have hi : i < o.length := (List.getElem?_eq_some_iff.mp hn).1
      refine ⟨rfl, ?_⟩
      refine tYes_ok ?_
      refine iteT ?_
      refine ⟨_, rfl, (by show 2 ≤ sizeLine; decide), fun T2 nT2 => ?_⟩
      have hD2 : upd H' T2 (.tup [V.int (n : Nat), V.int 1]) D = some (.lst (ps.map V.ref)) := new_keep hD nT2
      refine ⟨_, hD2, by rw [List.length_map, hpl]; exact Nat.lt_of_lt_of_le hi (by rw [natV_len] at hl2; exact hl2), ps ++ [T2], ?_, ?_, ?_, ?_⟩
      · exact Gx.app (g.trans (Gx.new nT2)) nD hD2 rfl
      · rw [upd_same, List.map_append]; rfl
      · rw [take_snoc hn]
        have e : onesN (o.take i ++ [n]) = onesN (o.take i) ++ [((Sum.inl (n : Int) : Key), V.int 1)] := by simp [onesN]
        rw [e]
        refine paired_snoc ?_ (Paired.mapP hp fun p kv h => upd_tup (new_keep h nT2) hD2)
        exact upd_tup upd_same hD2
      · rw [List.length_append, hpl]; rfl
    · rintro H' ⟨ps, g, hD, hp, hpl⟩
      rw [natV_len, List.take_length] at hp
      refine ⟨D, ps, onesN o, rfl, SqL.of hD, Paired.mapP hp fun p kv h => SqT.of h, fun d nd' => ?_⟩
      rw [mergeK_nodup (onesN_keys nd)]
      have g2 : Gr a H1 (upd H' d (.dK (onesN o))) := g.trans (Gx.new nd')
      refine ⟨d, _, rfl, upd_same, ?_⟩
      have ht2 := Gr.tup g2 ht
      refine ⟨_, rfl, t, _, rfl, .inr (SqT.of ht2), rfl, _, rfl, ?_⟩
      refine iteNS (by simp [onesN, natV]) ?_
      have tb2 := (g1.trans g2).tb tb
      refine ⟨_, rfl, t, _, (fun v => match v with | .int i => !(decide (0 ≤ i) && decide (i < (m : Int))) | _ => false), rfl, .inr (SqT.of ht2), tb2.t1, ?_, fun H3 tt => ?_⟩
      · intro v hv
        obtain ⟨n, hn, rfl⟩ := List.mem_map.mp hv
        exact ⟨_, _, rfl, rfl, rfl⟩
      · have g3 : Gr a (upd H' d (.dK (onesN o))) H3 := Gx.tabbed tb2.t1 T.p41 tt
        refine ⟨_, rfl, ?_⟩
        have e : ((natV o).any fun v => match v with | .int i => !(decide (0 ≤ i) && decide (i < (m : Int))) | _ => false) = false := by
          rw [List.any_eq_false]
          intro v hv
          obtain ⟨n, hn, rfl⟩ := List.mem_map.mp hv
          have := hlt n hn
          simp
          omega
        rw [e]
        refine iteF ?_
        exact ⟨_, rfl, k t H3 ((g1.trans g2).trans g3) (Gr.tup g3 ht2)⟩
/-- a tuple of the numbers below m, each once, at most i -/
def LT (m i : Nat) (H : Hp) (p : Addr) : Prop := ∃ o : List Nat, H p = some (.tup (natV o)) ∧ o.Nodup ∧ (∀ n, n ∈ o → n < m) ∧ o.length ≤ i
theorem LT.gr {a : Ad} {m i : Nat} {H H' : Hp} {p : Addr} (g : Gr a H H') (h : LT m i H p) : LT m i H' p := let ⟨o, e, r⟩ := h; ⟨o, Gr.tup g e, r⟩
theorem LT.mono {m i j : Nat} {H : Hp} {p : Addr} (h : LT m i H p) (hij : i ≤ j) : LT m j H p := let ⟨o, e, a, b, c⟩ := h; ⟨o, e, a, b, Nat.le_trans c hij⟩
theorem LT.updL {m i : Nat} {H : Hp} {p D : Addr} {acc : List V} {o : HO} (h : LT m i H p) (hD : H D = some (.lst acc)) : LT m i (upd H D o) p := let ⟨q, e, r⟩ := h; ⟨q, upd_tup e hD, r⟩
def spAllLists (a : Ad) : Sp := fun vs H Q _ => ∃ (m : Nat), vs = [.int (m : Nat)] ∧ m ≤ 2 ∧ Tb a H ∧
  ∀ (t : Addr) (ts : List Addr) H', Gr a H H' → H' t = some (.tup (ts.map V.ref)) → ts.length ≤ 100 → (∀ p, p ∈ ts → LT m 100 H' p) → Q (.ref t) H'
theorem natV_flat (o : List Nat) : (natV o).all flatV = true := by
  rw [List.all_eq_true]
  intro v hv
  obtain ⟨n, _, rfl⟩ := List.mem_map.mp hv
  rfl
theorem inV_nat (n : Nat) (o : List Nat) : inV (V.int (n : Nat)) (natV o) = decide (n ∈ o) := by
  unfold inV natV
  rw [List.any_map, Bool.eq_iff_iff, List.any_eq_true, decide_eq_true_eq]
  constructor
  · rintro ⟨k, hk, e⟩
    have e : ((k : Int) == (n : Int)) = true := e
    have : k = n := by have := beq_iff_eq.mp e; omega
    rw [← this]; exact hk
  · intro h
    exact ⟨n, h, by show ((n : Int) == (n : Int)) = true; simp⟩
theorem sc_g_all_lists : FnScope ["many", "found", "fresh", "turn", "order", "one"] ["many"] (defScope s_g_all_lists) := ⟨rfl, rfl, rfl, by decide +kernel, rfl, by decide +kernel, by decide +kernel⟩
theorem ok_all_lists (T : Txt K mg base a) : FnOk P w K mg base CX0 1 a.f_g_all_lists a.d_g_all_lists ["many"] (spAllLists a) := by
  refine T.F_g_all_lists.ok sc_g_all_lists (fun vs H Q E h => ?_) (fun cdv A outer s H vs Q E hr h => ?_)
  · obtain ⟨m, rfl, _⟩ := h
    rfl
  · obtain ⟨m, rfl, hm, tb, k⟩ := h
    have nd := sc_g_all_lists.nd
    refine ⟨_, pss_cons (ps_if (pt_cmpR op_gt (pv 0) pe_int (nomark _)) pss_never pss_nil)
      (pss_cons (ps_set (i := 1) nd rfl (Or.inl rfl) (pe_lst (pa_cons (pe_tup pa_nil) pa_nil)))
      (pss_cons (ps_set (i := 2) nd rfl (Or.inl rfl) (pe_lst (pa_cons (pe_tup pa_nil) pa_nil)))
      (pss_cons (ps_for PassesOwn.never rfl (pi_range1 (by rfl) T.z_range (pa_cons (pv 0) pa_nil)) (pg_name (i := 3) nd rfl (Or.inl rfl))
        (pss_cons (ps_setLc2 (i := 2) (own := [("order", 4), ("one", 5)]) (vs1 := [5]) (g := gName 4) (tt := tYes) (g1 := gName 5) rfl nd rfl rfl (sw_true rfl rfl rfl (by decide +kernel)) (pi_list (pv 2))
            (blkOk_by (N := ["many", "found", "fresh", "turn", "order", "one"]) (sc := defScope s_g_all_lists) (by decide +kernel)) (by decide)
            (fun _ _ _ _ _ => pg_name (i := 4) nd rfl (Or.inl rfl)) (fun _ _ _ _ _ => pts_nil) (fun _ _ _ _ _ => pi_range1 (by rfl) T.z_range (pa_cons (pv 0) pa_nil)) (fun _ _ _ _ _ => pg_name (i := 5) nd rfl (Or.inl rfl))
            (fun _ _ _ _ _ => pts_one (pt_cmpR (r := rIn K true) op_notIn_seq (pv 5) (pv 4) rfl)) (fun _ _ _ _ _ => pe_op (r := rCatA K) op_catA (pv 4) (pe_tup (pa_cons (pv 5) pa_nil))))
          (pss_one (ps_aug (i := 1) nd rfl (Or.inl rfl) (pv 2) iop_ext))))
      (pss_one (ps_ret (pe_callTy (call_tupleS a) (by rfl) T.z_tuple bt_tuple (pa_cons (pv 1) pa_nil))))))), ?_⟩
    refine ⟨_, rfl, _, _, rfl, rfl, _, rfl, ?_⟩
    rw [show decide ((5 : Int) < (m : Int)) = false from decide_eq_false (by omega)]
    refine iteF ?_
    -- found = [()]; fresh = [()]
    refine ⟨Nat.zero_le _, fun t1 n1 => ⟨by show 1 ≤ sizeLine; decide, fun lf nf => ⟨Nat.zero_le _, fun t2 n2 => ⟨by show 1 ≤ sizeLine; decide, fun lg ng => ?_⟩⟩⟩⟩
    have nfg : lf ≠ lg := ne_of_none (new_keep (o := .tup []) upd_same n2) ng
    -- for turn in range(many)
    refine ⟨_, rfl, (m : Int), rfl, by omega, by omega, ?_⟩
    rw [Int.toNat_natCast]
    refine for_range (lo := 0) (n := m) (fun i σ H' => ∃ (v : Option V) (lg : Addr) (fs gs : List Addr), σ = [some (.int (m : Nat)), some (.ref lf), some (.ref lg), v, none, none] ∧ Gr a H H' ∧ H lf = none ∧
        H' lf = some (.lst (fs.map V.ref)) ∧ H' lg = some (.lst (gs.map V.ref)) ∧ lf ≠ lg ∧ (∀ p, p ∈ fs → LT m i H' p) ∧ (∀ p, p ∈ gs → LT m i H' p) ∧ gs.length ≤ 2 ^ i ∧ fs.length ≤ 2 ^ (i + 1)) ?_ ?_ ?_
    · have g1 : Gr a H (upd (upd (upd (upd H t1 (.tup [])) lf (.lst [V.ref t1])) t2 (.tup [])) lg (.lst [V.ref t2])) := (((Gx.new n1).trans (Gx.new nf)).trans (Gx.new n2)).trans (Gx.new ng)
      have h1 : upd (upd (upd (upd H t1 (.tup [])) lf (.lst [V.ref t1])) t2 (.tup [])) lg (.lst [V.ref t2]) t1 = some (.tup (natV [])) := new_keep (new_keep (new_keep upd_same nf) n2) ng
      have h2 : upd (upd (upd (upd H t1 (.tup [])) lf (.lst [V.ref t1])) t2 (.tup [])) lg (.lst [V.ref t2]) t2 = some (.tup (natV [])) := new_keep upd_same ng
      refine ⟨none, lg, [t1], [t2], rfl, g1, (Gx.new (a := a) (S := []) n1).free _ nf, new_keep (new_keep upd_same n2) ng, upd_same, nfg, fun p hp => ?_, fun p hp => ?_, Nat.le_refl 1, (show 1 ≤ 2 by omega)⟩
      · rw [List.mem_singleton.mp hp]
        exact ⟨[], h1, List.nodup_nil, (fun _ z => by cases z), Nat.le_refl _⟩
      · rw [List.mem_singleton.mp hp]
        exact ⟨[], h2, List.nodup_nil, (fun _ z => by cases z), Nat.le_refl _⟩
    · rintro i σ H' hi ⟨v, lg', fs, gs, rfl, g, nlf, hf, hg, nfg', Lf, Lg, bg, bf⟩
      -- fresh = [order + (one,) for order in fresh for one in range(many) if one not in order]
      refine ⟨_, rfl, lg', rfl, ⟨_, SqL.of hg⟩, fun D nD => ?_⟩
      have nfD : lf ≠ D := ne_of_none hf nD
      have b2 : 2 ^ (i + 1) ≤ 4 := by
        have : i = 0 ∨ i = 1 := by omega
        rcases this with rfl | rfl <;> decide
      refine walk_go (walk_list (K := K) (a := lg') (xs := gs.map V.ref)) (fun j H2 => ∃ ds : List Addr, Gr a H' H2 ∧ H2 D = some (.lst (ds.map V.ref)) ∧ (∀ p, p ∈ ds → LT m (i + 1) H2 p) ∧ ds.length ≤ 2 * j)
        ⟨[], Gx.new nD, upd_same, (fun _ z => by cases z), Nat.zero_le _⟩ (fun j H2 _ ⟨_, g2, _⟩ => SqL.of (Gr.lst g2 hg)) ?_ ?_
      · rintro j x H2 H3 hj ⟨ds, g2, hD, hds, hdl⟩ ⟨rfl, hx⟩
        rw [List.length_map] at hj
        rw [List.getElem?_map] at hx
        obtain ⟨q, hq, rfl⟩ : ∃ q, gs[j]? = some q ∧ x = V.ref q := by
          cases e : gs[j]? with
          | none => rw [e] at hx; cases hx
          | some q => rw [e] at hx; exact ⟨q, rfl, (Option.some.inj hx).symm⟩
        obtain ⟨o, ho, ho1, ho2, ho3⟩ := Lg q (List.mem_of_getElem? hq)
        refine ⟨rfl, ?_⟩
        refine tYes_ok ?_
        refine iteT ?_
        refine ⟨_, rfl, (m : Int), rfl, by omega, by omega, ?_⟩
        rw [Int.toNat_natCast]
        refine walk_go walk_range0 (fun l H4 => ∃ ds : List Addr, Gr a H' H4 ∧ H4 D = some (.lst (ds.map V.ref)) ∧ (∀ p, p ∈ ds → LT m (i + 1) H4 p) ∧ ds.length ≤ 2 * j + l) ⟨ds, g2, hD, hds, by omega⟩ (fun _ _ _ _ => trivial) ?_ ?_
        · rintro l x H4 H5 hl ⟨es, g4, hD4, hes, hel⟩ ⟨rfl, rfl⟩
          have hoq : H5 q = some (.tup (natV o)) := Gr.tup g4 ho
          refine ⟨rfl, _, rfl, _, rfl, q, _, rfl, .inr (SqT.of hoq), rfl, natV_flat o, ?_⟩
          refine ⟨_, rfl, ?_⟩
          show if (!inV (V.int (l : Nat)) (natV o)) = true then _ else _
          rw [inV_nat]
          by_cases hin : l ∈ o
          · rw [decide_eq_true hin]
            refine iteF ?_
            exact ⟨es, g4, hD4, hes, by omega⟩
          · rw [decide_eq_false hin]
            refine iteT ?_
            refine ⟨_, rfl, _, rfl, by show 1 ≤ sizeLine; decide, fun t3 n3 => ?_⟩
            have hoq3 := new_keep (o := .tup [V.int (l : Nat)]) hoq n3
            have fin : ∀ (p : Addr) (H6 : Hp), Gr a H5 H6 → H6 D = some (.lst (es.map V.ref)) → H6 p = some (.tup (natV (o ++ [l]))) →
                ∃ acc, H6 D = some (.lst acc) ∧ acc.length < sizeLine ∧ ∃ ds : List Addr, Gr a H' (upd H6 D (.lst (acc ++ [V.ref p]))) ∧ upd H6 D (.lst (acc ++ [V.ref p])) D = some (.lst (ds.map V.ref)) ∧ (∀ p', p' ∈ ds → LT m (i + 1) (upd H6 D (.lst (acc ++ [V.ref p]))) p') ∧ ds.length ≤ 2 * j + (l + 1) := by
              intro p H6 g6 hD6 hp6
              refine ⟨_, hD6, ?_, es ++ [p], Gx.app (g4.trans g6) nD hD6 rfl, by rw [upd_same, List.map_append]; rfl, fun p' hp' => ?_, by rw [List.length_append, List.length_singleton]; omega⟩
              · rw [List.length_map]
                have : sizeLine = 16777216 := sizeLine_eq
                have b3 : 2 ^ i ≤ 4 := Nat.le_trans (Nat.pow_le_pow_right (by decide) (Nat.le_succ i)) b2
                omega
              · rcases List.mem_append.mp hp' with z | z
                · exact ((hes p' z).gr g6).updL hD6
                · rw [List.mem_singleton.mp z]
                  refine LT.updL ⟨o ++ [l], hp6, ?_, fun n hn => ?_, by rw [List.length_append, List.length_singleton]; omega⟩ hD6
                  · exact nd_snoc ho1 hin
                  · rcases List.mem_append.mp hn with z | z
                    · exact ho2 n z
                    · rw [List.mem_singleton.mp z]; exact hl
            refine ⟨q, t3, natV o, [V.int (l : Nat)], rfl, rfl, SqT.of hoq3, SqT.of upd_same, ?_, fun e => ?_, (fun _ z => by cases z), fun hne _ p np => ?_⟩
            · rw [natV_len]
              have : sizeLine = 16777216 := sizeLine_eq
              show o.length + 1 ≤ _
              omega
            · have eo : o = [] := by simpa [natV] using e
              refine fin t3 _ (Gx.new n3) (new_keep hD4 n3) ?_
              rw [upd_same, eo]
              rfl
            · refine fin p _ ((Gx.new n3).trans (Gx.new np)) (new_keep (new_keep hD4 n3) np) ?_
              rw [upd_same, natV_snoc]
        · rintro H4 ⟨es, g4, hD4, hes, hel⟩
          exact ⟨es, g4, hD4, hes, by omega⟩
      · rintro H2 ⟨ds, g2, hD, hds, hdl⟩
        rw [List.length_map] at hdl
        have hf2 := Gr.lst g2 hf
        refine ⟨_, rfl, _, rfl, lf, D, _, _, rfl, rfl, hf2, hD, ?_, ?_⟩
        · rw [List.length_map, List.length_map]
          have : sizeLine = 16777216 := sizeLine_eq
          have b3 : 2 ^ i ≤ 4 := Nat.le_trans (Nat.pow_le_pow_right (by decide) (Nat.le_succ i)) b2
          omega
        · have pw : 2 ^ (i + 1) = 2 * 2 ^ i := by rw [Nat.pow_succ]; omega
          have pw2 : 2 ^ (i + 1 + 1) = 2 * 2 ^ (i + 1) := by rw [Nat.pow_succ]; omega
          refine ⟨_, D, fs ++ ds, ds, rfl, Gx.app (g.trans g2) nlf hf2 rfl, nlf, by rw [upd_same, List.map_append], by rw [upd_ne nfD.symm]; exact hD, nfD, fun p hp => ?_, fun p hp => (hds p hp).updL hf2, by omega, by rw [List.length_append]; omega⟩
          rcases List.mem_append.mp hp with z | z
          · exact (((Lf p z).gr g2).mono (Nat.le_succ i)).updL hf2
          · exact (hds p z).updL hf2
    · rintro σ H' ⟨v, lg', fs, gs, rfl, g, nlf, hf, hg, nfg', Lf, Lg, bg, bf⟩
      refine ⟨_, rfl, lf, _, rfl, .inl hf, fun t H2 g2 ht => ?_⟩
      refine k t fs H2 (g.trans g2) ht ?_ fun p hp => ((Lf p hp).gr g2).mono (by omega)
      have b2 : 2 ^ (m + 1) ≤ 8 := by
        have : m = 0 ∨ m = 1 ∨ m = 2 := by omega
        rcases this with rfl | rfl | rfl <;> decide
      omega
end
end K6

/-! ## KMkt -/
set_option maxRecDepth 100000
set_option maxHeartbeats 4000000
/-! Markets. -/
namespace K6
open PySem PySem.Spec PyProof.Rows L2
theorem paired_get {α β : Type} {F : α → β → Prop} : ∀ {l : List α} {k : List β} {i : Nat} {y : β}, Paired F l k → k[i]? = some y → ∃ x, l[i]? = some x ∧ F x y
  | _, _, _, _, .nil, e => by simp at e
  | _, _, 0, y, .cons (a := x) h _, e => by
    have e : _ = y := Option.some.inj e
    subst e
    exact ⟨x, rfl, h⟩
  | _, _, i + 1, y, .cons _ t, e => by
    obtain ⟨x, h1, h2⟩ := paired_get (i := i) (y := y) t (by simpa using e)
    exact ⟨x, by simpa using h1, h2⟩
theorem paired_get' {α β : Type} {F : α → β → Prop} : ∀ {l : List α} {k : List β} {i : Nat} {x : α}, Paired F l k → l[i]? = some x → ∃ y, k[i]? = some y ∧ F x y
  | _, _, _, _, .nil, e => by simp at e
  | _, _, 0, x, .cons (b := y) h _, e => by
    have e : _ = x := Option.some.inj e
    subst e
    exact ⟨y, rfl, h⟩
  | _, _, i + 1, x, .cons _ t, e => by
    obtain ⟨y, h1, h2⟩ := paired_get' (i := i) (x := x) t (by simpa using e)
    exact ⟨y, by simpa using h1, h2⟩
theorem paired_set {α β : Type} {F : α → β → Prop} {x : α} {y : β} (h : F x y) : ∀ {l : List α} {k : List β} (i : Nat), Paired F l k → Paired F (l.set i x) (k.set i y)
  | _, _, _, .nil => .nil
  | _, _, 0, .cons _ t => .cons h t
  | _, _, i + 1, .cons r t => .cons r (paired_set h i t)
def rLenS (K : PySem.W.Frag) : List V → Hp → VK → Prop := fun xs H Q => ∃ p ys, xs = [.ref p] ∧ (SqL K H p ys ∨ SqT K H p ys) ∧ Q (.int ys.length) H
theorem call_lenS {X : Cx} : CallR X (.builtin "len") (rLenS X.K) := call_len_seq
def mf (la lr t : Addr) : List (Str × V) := [("askers", .ref la), ("rooms", .ref lr), ("seats", .ref t)]
theorem mf_askers (la lr t : Addr) : (mf la lr t).lookup ("askers" : Str) = some (V.ref la) := lk1
theorem mf_rooms (la lr t : Addr) : (mf la lr t).lookup ("rooms" : Str) = some (V.ref lr) := lk2 (by decide +kernel) lk1
theorem mf_seats (la lr t : Addr) : (mf la lr t).lookup ("seats" : Str) = some (V.ref t) := lk2 (by decide +kernel) (lk2 (by decide +kernel) lk1)
theorem mf_no (la lr t : Addr) {m : Str} (h1 : ¬ m = "askers") (h2 : ¬ m = "rooms") (h3 : ¬ m = "seats") : (mf la lr t).lookup m = none := lk0 h1 (lk0 h2 (lk0 h3 lkn))
/-- a well formed market -/
structure WF (L O : List (List Nat)) (S : List Nat) : Prop where
  ls : S.length = O.length
  li : ∀ l, l ∈ L → l.Nodup ∧ (∀ n, n ∈ l → n < O.length) ∧ l.length ≤ 100
  or : ∀ o, o ∈ O → o.Nodup ∧ (∀ n, n ∈ o → n < L.length) ∧ o.length ≤ 100
  la : L.length ≤ 10
  lo : O.length ≤ 2
/-- a Market stands at p -/
def MktAt (a : Ad) (H : Hp) (p : Addr) (L O : List (List Nat)) (S : List Nat) : Prop :=
  ∃ (dx la lr t : Addr) (as rs : List Addr), H p = some (.ins a.cM dx (mf la lr t)) ∧ H la = some (.lst (as.map V.ref)) ∧ H lr = some (.lst (rs.map V.ref)) ∧ H t = some (.tup (natV S)) ∧
    Paired (fun w o => WishAt a H w o) as L ∧ Paired (fun w o => WishAt a H w o) rs O
theorem MktAt.gr {a : Ad} {H H' : Hp} {p : Addr} {L O : List (List Nat)} {S : List Nat} (g : Gr a H H') (h : MktAt a H p L O S) : MktAt a H' p L O S := by
  obtain ⟨dx, la, lr, t, as, rs, h1, h2, h3, h4, h5, h6⟩ := h
  exact ⟨dx, la, lr, t, as, rs, Gr.ins g h1, Gr.lst g h2, Gr.lst g h3, Gr.tup g h4, Paired.mapP h5 fun _ _ x => x.gr g, Paired.mapP h6 fun _ _ x => x.gr g⟩
def spMInit (a : Ad) : Sp := fun vs H Q _ => ∃ (p dx la lr t : Addr) (as rs : List Addr) (L O : List (List Nat)) (S : List Nat), vs = [.ref p, .ref la, .ref lr, .ref t] ∧ H p = some (.ins a.cM dx []) ∧
  H la = some (.lst (as.map V.ref)) ∧ Paired (fun q l => Seq1 H q (natV l)) as L ∧ H lr = some (.lst (rs.map V.ref)) ∧ Paired (fun q l => Seq1 H q (natV l)) rs O ∧ Seq1 H t (natV S) ∧ WF L O S ∧ Tb a H ∧
  ∀ H', MktAt a H' p L O S → Gx a [p] H H' → Q .non H'
section
variable {P : Program} {w : World} {K : PySem.W.Frag} {mg : Str → Option Value} {base : Heap} {a : Ad}
theorem Seq1.sq {H : Hp} {p : Addr} {xs : List V} (h : Seq1 H p xs) : SqL K H p xs ∨ SqT K H p xs := h.elim (fun h => .inl (SqL.of h)) fun h => .inr (SqT.of h)
abbrev tWishOf (a : Ad) (K : PySem.W.Frag) (j : Nat) : TE := tMake a.cW (spWInit a) [] E0 (tCons (tCall (spCheckList a) [] E0 (tCons (tVar 4) (tCons (tCB (rLenS K) (tCons (tVar j) tNil)) tNil))) tNil)
theorem map_get {α : Type} {f : α → V} {l : List α} {n : Nat} {x : V} (h : (l.map f)[n]? = some x) : ∃ q, l[n]? = some q ∧ x = f q := by
  rw [List.getElem?_map] at h
  cases e : l[n]? with
  | none => rw [e] at h; cases h
  | some q => rw [e] at h; exact ⟨q, rfl, (Option.some.inj h).symm⟩
theorem wishes_comp (i j : Nat) {v0 v1 v2 v3 v4 : Option V} {H1 : Hp} {Q : VK} {la lo : Addr} {as os : List Addr} {L : List (List Nat)} {m : Nat} (h1 : [v0, v1, v2, v3, v4][i]? = some (some (V.ref la))) (h2 : ∀ q : V, [v0, v1, v2, v3, some q][j]? = some (some (V.ref lo)))
    (hla : H1 la = some (.lst (as.map V.ref))) (pL : Paired (fun q l => Seq1 H1 q (natV l)) as L) (hlo : H1 lo = some (.lst (os.map V.ref))) (hm : os.length = m)
    (wf : ∀ l, l ∈ L → l.Nodup ∧ (∀ n, n ∈ l → n < m) ∧ l.length ≤ 100) (hlen : as.length ≤ 1000) (tb : Tb a H1)
    (k : ∀ D H2 (ds : List Addr), Gr a H1 H2 → H2 D = some (.lst (ds.map V.ref)) → H1 D = none → Paired (fun w o => WishAt a H2 w o) ds L → Q (.ref D) H2) :
    tLc (iList K (tVar i)) (gName 4) tYes (tWishOf a K j) [4] [v0, v1, v2, v3, v4] H1 Q := by
  refine ⟨_, h1, la, rfl, ⟨_, SqL.of hla⟩, fun D nD => ?_⟩
  refine lc_list (K := K) (a := la) (xs := as.map V.ref) (fun n H2 => ∃ ds : List Addr, Gr a H1 H2 ∧ H2 D = some (.lst (ds.map V.ref)) ∧ Paired (fun w o => WishAt a H2 w o) ds (L.take n) ∧ ds.length = n) ⟨[], Gx.new nD, upd_same, .nil, rfl⟩ (fun n H2 _ ⟨_, g, _⟩ => SqL.of (Gr.lst g hla)) ?_ ?_
  · rintro n x H2 hx ⟨ds, g, hD, pd, hdl⟩
    obtain ⟨q, hq, rfl⟩ := map_get hx
    obtain ⟨l, hl, sl⟩ := paired_get' pL hq
    obtain ⟨wl1, wl2, wl3⟩ := wf l (List.mem_of_getElem? hl)
    have hn : n < as.length := (List.getElem?_eq_some_iff.mp hq).1
    refine ⟨rfl, tYes_ok ?_⟩
    refine iteT ?_
    refine ⟨_, rfl, _, h2 _, lo, _, rfl, .inl (SqL.of (Gr.lst g hlo)), q, l, m, ?_, sl.gr g, wl1, wl2, wl3, g.tb tb, fun t H3 g3 ht => ?_⟩
    · rw [List.length_map, hm]; rfl
    · intro x dx nx ndx ne
      have g4 : Gr a H3 (upd (upd H3 dx (.own x)) x (.ins a.cW dx [])) := Gx.inst nx ndx ne
      refine ⟨x, dx, t, l, rfl, upd_same, Gr.tup g4 ht, wl1, wl3, fun H5 hW g5 => ⟨rfl, ?_⟩⟩
      have g15 : Gr a H2 H5 := Gx.over (g3.trans g4) g5 fun b hb => by rw [List.mem_singleton.mp hb]; exact g3.free _ nx
      have hD5 := Gr.lst g15 hD
      refine ⟨_, hD5, ?_, ds ++ [x], Gx.app (g.trans g15) nD hD5 rfl, by rw [upd_same, List.map_append]; rfl, ?_, by rw [List.length_append, hdl]; rfl⟩
      · rw [List.length_map, hdl]
        have : sizeLine = 16777216 := sizeLine_eq
        omega
      · rw [take_snoc hl]
        have st : ∀ w o, WishAt a H5 w o → WishAt a (upd H5 D (.lst (ds.map V.ref ++ [V.ref x]))) w o := fun w o ⟨dx', t', d', e1, e2, e3⟩ => ⟨dx', t', d', upd_ins e1 hD5, upd_tup e2 hD5, upd_dk e3 hD5⟩
        refine paired_snoc ?_ (Paired.mapP pd fun w o h => st w o (h.gr g15))
        exact st _ _ hW
  · rintro H2 ⟨ds, g, hD, pd, hdl⟩
    rw [List.length_map, pL.length, List.take_length] at pd
    exact k D H2 ds g hD nD pd
theorem sc_M_init : FnScope ["self", "lists", "orders", "seats", "order"] ["self", "lists", "orders", "seats"] (defScope s_M_init) := ⟨rfl, rfl, rfl, by decide +kernel, rfl, by decide +kernel, by decide +kernel⟩
theorem ok_M_init (T : Txt K mg base a) : FnOk P w K mg base CX0 3 a.f_M_init a.d_M_init ["self", "lists", "orders", "seats"] (spMInit a) := by
  have GW : FnOk P w K mg base CX0 1 a.f_W_init a.d_W_init ["self", "order"] (spWInit a) := ok_W_init T
  have GC : FnOk P w K mg base CX0 1 a.f_g_check_list a.d_g_check_list ["order", "many"] (spCheckList a) := ok_check_list T
  refine T.F_M_init.ok sc_M_init (fun vs H Q E h => ?_) (fun A outer s H vs Q E hr h => ?_)
  · obtain ⟨p, dx, la, lr, t, as, rs, L, O, S, rfl, _⟩ := h
    rfl
  · obtain ⟨p, dx, la, lr, t, as, rs, L, O, S, rfl, hp, hla, pL, hlr, pO, ht, wf, tb, k⟩ := h
    have nd := sc_M_init.nd
    have hr1 : Room 1 _ := hr.mono (by decide)
    refine ⟨_, pss_cons (ps_if (PW.pt (pw_or (pt_cmpR op_ne (pe_callB call_lenS (by rfl) T.z_len bt_len (pa_cons (pv 2) pa_nil)) (pe_callB call_lenS (by rfl) T.z_len bt_len (pa_cons (pv 3) pa_nil)) (nomark _))
        (pw_or1 (pt_val (pe_anyV hr (by rfl) T.z_any T.t2 rfl ⟨rfl, rfl, by decide +kernel, rfl, rfl, free_by (sc := defScope s_M_init) (by decide +kernel)⟩ (pv 3) (elt_neg rfl rfl) (fun _ => rfl)))))) pss_never pss_nil)
      (pss_cons (ps_fld (pv 0) (pe_lc (own := [("order", 4)]) (g := gName 4) (tt := tYes) rfl nd (pi_list (pv 1)) (blkOk_by (N := ["self", "lists", "orders", "seats", "order"]) (sc := defScope s_M_init) (by decide +kernel))
          (fun _ _ _ _ _ => pg_name (i := 4) nd rfl (Or.inl rfl)) (fun _ _ _ _ _ => pts_nil)
          (fun _ _ _ _ _ => pe_make T.mk_W GW hr (by rfl) T.gc_W T.b_W_init .nil pass0 (pa_cons (pe_call GC hr1 (by rfl) T.g_g_check_list T.F_g_check_list.kp T.b_g_check_list .nil pass0 (pa_cons (pv 4) (pa_cons (pe_callB (r := rLenS K) call_lenS (by rfl) T.z_len bt_len (pa_cons (pv 2) pa_nil)) pa_nil))) pa_nil))) rfl)
      (pss_cons (ps_fld (pv 0) (pe_lc (own := [("order", 4)]) (g := gName 4) (tt := tYes) rfl nd (pi_list (pv 2)) (blkOk_by (N := ["self", "lists", "orders", "seats", "order"]) (sc := defScope s_M_init) (by decide +kernel))
          (fun _ _ _ _ _ => pg_name (i := 4) nd rfl (Or.inl rfl)) (fun _ _ _ _ _ => pts_nil)
          (fun _ _ _ _ _ => pe_make T.mk_W GW hr (by rfl) T.gc_W T.b_W_init .nil pass0 (pa_cons (pe_call GC hr1 (by rfl) T.g_g_check_list T.F_g_check_list.kp T.b_g_check_list .nil pass0 (pa_cons (pv 4) (pa_cons (pe_callB (r := rLenS K) call_lenS (by rfl) T.z_len bt_len (pa_cons (pv 1) pa_nil)) pa_nil))) pa_nil))) rfl)
      (pss_one (ps_fld (pv 0) (pe_callTy (call_tupleS a) (by rfl) T.z_tuple bt_tuple (pa_cons (pv 3) pa_nil)) rfl)))), ?_⟩
    have hro : rs.length = O.length := pO.length
    have hal : as.length = L.length := pL.length
    refine ⟨_, rfl, lr, _, rfl, .inl (SqL.of hlr), _, rfl, t, _, rfl, ht.sq, rfl, _, rfl, ?_⟩
    refine iteNS (by rw [List.length_map, hro, natV_len, wf.ls]) ?_
    refine ⟨_, rfl, t, _, (fun v => match v with | .int i => decide (i < 0) | _ => false), rfl, ht.sq, tb.t2, ?_, fun H1 tt => ?_⟩
    · intro v hv
      obtain ⟨n, hn, rfl⟩ := List.mem_map.mp hv
      exact ⟨_, rfl, rfl⟩
    have g1 : Gr a H H1 := Gx.tabbed tb.t2 T.p42 tt
    have e : ((natV S).any fun v => match v with | .int i => decide (i < 0) | _ => false) = false := by
      rw [List.any_eq_false]
      intro v hv
      obtain ⟨n, hn, rfl⟩ := List.mem_map.mp hv
      simp
    refine ⟨_, rfl, ?_⟩
    rw [e]
    refine iteF ?_
    have tb1 := g1.tb tb
    -- self.askers
    dsimp only [tNext, tSeq, sFld]
    refine wishes_comp 1 2 (m := O.length) (os := rs) rfl (fun _ => rfl) (Gr.lst g1 hla) (Paired.mapP pL fun _ _ x => x.gr g1) (Gr.lst g1 hlr) hro wf.li (by rw [hal]; exact Nat.le_trans wf.la (by decide)) tb1 fun D1 H2 ds1 g2 hD1 nD1 pW1 => ?_
    have hp2 := Gr.ins (g1.trans g2) hp
    refine ⟨_, rfl, p, a.cM, dx, _, rfl, hp2, T.cl_M, T.n_M_askers, (by show 0 < 1000; decide), ?_⟩
    generalize hH3 : upd H2 p (HO.ins a.cM dx (putF "askers" (V.ref D1) [])) = H3
    have g3 : Gx a [p] H2 H3 := by rw [← hH3]; exact Gx.set hp2 rfl (by simp)
    have hp3 : H3 p = some (.ins a.cM dx [("askers", V.ref D1)]) := by rw [← hH3]; exact upd_same
    have np : ∀ b o, H2 b = some o → (∀ fs, o ≠ .ins a.cM dx fs) → b ∉ [p] := fun b o e hn z => by
      rw [List.mem_singleton.mp z, hp2] at e
      cases e
      exact hn _ rfl
    have hla2 := Gr.lst (g1.trans g2) hla
    have hlr2 := Gr.lst (g1.trans g2) hlr
    have g13 : Gx a [p] H H3 := (g1.trans g2).to.trans g3
    have npH : ∀ b o, H b = some o → (∀ fs, o ≠ .ins a.cM dx fs) → b ∉ [p] := fun b o e hn z => by
      rw [List.mem_singleton.mp z, hp] at e
      cases e
      exact hn _ rfl
    have sq3 : ∀ b xs, Seq1 H b xs → Seq1 H3 b xs := fun b xs h => by
      rcases h with h | h
      · exact .inl (g13.lst h (npH b _ h fun _ z => by cases z))
      · exact .inr (g13.tup h (npH b _ h fun _ z => by cases z))
    have tb3 : Tb a H3 := g13.tb tb
    have hD1' : H3 D1 = some (.lst (ds1.map V.ref)) := g3.lst hD1 (np _ _ hD1 fun _ z => by cases z)
    have pW1' : Paired (fun w o => WishAt a H3 w o) ds1 L := Paired.mapP pW1 fun w o ⟨dx', t', d', e1, e2, e3⟩ => ⟨dx', t', d', g3.ins e1 fun z => by
      rw [List.mem_singleton.mp z] at e1
      rw [hp2] at e1
      injection (Option.some.inj e1) with q
      exact T.ne_WM q, g3.tup e2 (np _ _ e2 fun _ z => by cases z), g3.dk e3 (np _ _ e3 fun _ z => by cases z)⟩
    -- self.rooms
    have hla3 : H3 la = some (.lst (as.map V.ref)) := g3.lst hla2 (np _ _ hla2 fun _ z => by cases z)
    have hlr3 : H3 lr = some (.lst (rs.map V.ref)) := g3.lst hlr2 (np _ _ hlr2 fun _ z => by cases z)
    refine wishes_comp 2 1 (m := L.length) (os := as) rfl (fun _ => rfl) hlr3 (Paired.mapP pO fun b o h => sq3 b _ h) hla3 hal wf.or (by rw [hro]; exact Nat.le_trans wf.lo (by decide)) tb3 fun D2 H4 ds2 g4 hD2 nD2 pW2 => ?_
    have hp4 := Gr.ins g4 hp3
    refine ⟨_, rfl, p, a.cM, dx, _, rfl, hp4, T.cl_M, T.n_M_rooms, (by show 1 < 1000; decide), ?_⟩
    generalize hH5 : upd H4 p (HO.ins a.cM dx (putF "rooms" (V.ref D2) [("askers", V.ref D1)])) = H5
    have g5 : Gx a [p] H4 H5 := by rw [← hH5]; exact Gx.set hp4 rfl (by simp)
    have hp5 : H5 p = some (.ins a.cM dx [("askers", V.ref D1), ("rooms", V.ref D2)]) := by
      rw [← hH5, upd_same, pf2 (by decide +kernel) pf0]
    have np4 : ∀ b o, H4 b = some o → (∀ fs, o ≠ .ins a.cM dx fs) → b ∉ [p] := fun b o e hn z => by
      rw [List.mem_singleton.mp z, hp4] at e
      cases e
      exact hn _ rfl
    have wst : ∀ w o, WishAt a H4 w o → WishAt a H5 w o := fun w o ⟨dx', t', d', e1, e2, e3⟩ => ⟨dx', t', d', g5.ins e1 fun z => by
      rw [List.mem_singleton.mp z] at e1
      rw [hp4] at e1
      injection (Option.some.inj e1) with q
      exact T.ne_WM q, g5.tup e2 (np4 _ _ e2 fun _ z => by cases z), g5.dk e3 (np4 _ _ e3 fun _ z => by cases z)⟩
    have hD1'' := g5.lst (Gr.lst g4 hD1') (np4 _ _ (Gr.lst g4 hD1') fun _ z => by cases z)
    have hD2'' := g5.lst hD2 (np4 _ _ hD2 fun _ z => by cases z)
    have ht5 : Seq1 H5 t (natV S) := by
      rcases (sq3 t _ ht).gr g4 with h | h
      · exact .inl (g5.lst h (np4 _ _ h fun _ z => by cases z))
      · exact .inr (g5.tup h (np4 _ _ h fun _ z => by cases z))
    -- self.seats
    refine ⟨_, rfl, t, _, rfl, ht5, fun t6 H6 g6 ht6 => ?_⟩
    have hp6 := Gr.ins g6 hp5
    refine ⟨_, rfl, p, a.cM, dx, _, rfl, hp6, T.cl_M, T.n_M_seats, (by show 2 < 1000; decide), ?_⟩
    generalize hH7 : upd H6 p (HO.ins a.cM dx (putF "seats" (V.ref t6) [("askers", V.ref D1), ("rooms", V.ref D2)])) = H7
    have g7 : Gx a [p] H6 H7 := by rw [← hH7]; exact Gx.set hp6 rfl (by simp)
    have hp7 : H7 p = some (.ins a.cM dx (mf D1 D2 t6)) := by
      rw [← hH7, upd_same, pf2 (by decide +kernel) (pf2 (by decide +kernel) pf0)]
      rfl
    have np6 : ∀ b o, H6 b = some o → (∀ fs, o ≠ .ins a.cM dx fs) → b ∉ [p] := fun b o e hn z => by
      rw [List.mem_singleton.mp z, hp6] at e
      cases e
      exact hn _ rfl
    have wst6 : ∀ w o, WishAt a H6 w o → WishAt a H7 w o := fun w o ⟨dx', t', d', e1, e2, e3⟩ => ⟨dx', t', d', g7.ins e1 fun z => by
      rw [List.mem_singleton.mp z] at e1
      rw [hp6] at e1
      injection (Option.some.inj e1) with q
      exact T.ne_WM q, g7.tup e2 (np6 _ _ e2 fun _ z => by cases z), g7.dk e3 (np6 _ _ e3 fun _ z => by cases z)⟩
    have g67 := Gr.lst g6 hD1''
    have g68 := Gr.lst g6 hD2''
    refine k H7 ⟨dx, D1, D2, t6, ds1, ds2, hp7, g7.lst g67 (np6 _ _ g67 fun _ z => by cases z), g7.lst g68 (np6 _ _ g68 fun _ z => by cases z), g7.tup ht6 (np6 _ _ ht6 fun _ z => by cases z), ?_, ?_⟩
      (g13.trans (g4.to.trans (g5.trans (g6.to.trans g7))))
    · exact Paired.mapP pW1' fun w o h => wst6 w o ((wst w o (h.gr g4)).gr g6)
    · exact Paired.mapP pW2 fun w o h => wst6 w o ((wst w o h).gr g6)
end
end K6

/-! ## KMk2 -/
set_option maxRecDepth 100000
set_option maxHeartbeats 4000000
/-! Market.size, with_list, those_in. -/
namespace K6
open PySem PySem.Spec PyProof.Rows L2
def spMSize (a : Ad) : Sp := fun vs H Q _ => ∃ (p : Addr) (L O : List (List Nat)) (S : List Nat), vs = [.ref p] ∧ MktAt a H p L O S ∧ Q (.int (L.length : Nat)) H
def spWithList (a : Ad) : Sp := fun vs H Q _ => ∃ (p t : Addr) (k : Nat) (o : List Nat) (L O : List (List Nat)) (S : List Nat), vs = [.ref p, .int (k : Nat), .ref t] ∧ MktAt a H p L O S ∧ WF L O S ∧ k < L.length ∧
  H t = some (.tup (natV o)) ∧ (o.Nodup ∧ (∀ n, n ∈ o → n < O.length) ∧ o.length ≤ 100) ∧ Tb a H ∧ ∀ m H', Gr a H H' → MktAt a H' m (L.set k o) O S → Q (.ref m) H'
theorem WF.set {L O : List (List Nat)} {S : List Nat} (h : WF L O S) {k : Nat} {o : List Nat} (ho : o.Nodup ∧ (∀ n, n ∈ o → n < O.length) ∧ o.length ≤ 100) : WF (L.set k o) O S :=
  ⟨h.ls, fun l hl => (List.mem_or_eq_of_mem_set hl).elim (h.li l) fun e => by rw [e]; exact ho, by rw [List.length_set]; exact h.or, by rw [List.length_set]; exact h.la, h.lo⟩
theorem ixN_nat {n k : Nat} (h : k < n) : ixN n (k : Int) = some k := by
  unfold ixN
  rw [if_pos (by omega), if_pos (by omega)]
  simp
section
variable {P : Program} {w : World} {K : PySem.W.Frag} {mg : Str → Option Value} {base : Heap} {a : Ad}
theorem sc_M_size : FnScope ["self"] ["self"] (defScope s_M_size) := ⟨rfl, rfl, rfl, by decide +kernel, rfl, by decide +kernel, by decide +kernel⟩
theorem ok_M_size (T : Txt K mg base a) : FnOk P w K mg base CX0 1 a.f_M_size a.d_M_size ["self"] (spMSize a) := by
  refine T.F_M_size.ok sc_M_size (fun vs H Q E h => ?_) (fun cdv A outer s H vs Q E hr h => ?_)
  · obtain ⟨p, L, O, S, rfl, _⟩ := h
    rfl
  · obtain ⟨p, L, O, S, rfl, ⟨dx, la, lr, t, as, rs, h1, h2, h3, h4, h5, h6⟩, k⟩ := h
    refine ⟨_, pss_one (ps_ret (pe_callB call_lenS (by rfl) T.z_len bt_len (pa_cons (pe_fld (pv 0) rfl) pa_nil))), ?_⟩
    refine ⟨_, rfl, p, a.cM, dx, _, _, rfl, h1, T.cl_M, T.n_M_askers, mf_askers _ _ _, la, _, rfl, .inl (SqL.of h2), ?_⟩
    have e : (as.map V.ref).length = L.length := by rw [List.length_map]; exact h5.length
    show Q (V.int (as.map V.ref).length) H
    rw [e]
    exact k
theorem orders_comp {f : Str} {v0 v1 v2 v3 v4 : Option V} {H1 : Hp} {Q : VK} {p dx lq : Addr} {fs : List (Str × V)} {ws : List Addr} {L : List (List Nat)} (T : Txt K mg base a) (e0 : v0 = some (V.ref p)) (hp : H1 p = some (.ins a.cM dx fs)) (nf : NoAttr K a.cM f) (hf : fs.lookup f = some (V.ref lq))
    (hq : H1 lq = some (.lst (ws.map V.ref))) (pW : Paired (fun w o => WishAt a H1 w o) ws L) (hlen : L.length ≤ 1000)
    (k : ∀ D H2 (ts : List Addr), Gr a H1 H2 → H2 D = some (.lst (ts.map V.ref)) → H1 D = none → Paired (fun q l => H2 q = some (.tup (natV l))) ts L → Q (.ref D) H2) :
    tLc (iList K (tFld K (tVar 0) f)) (gName 4) tYes (tFld K (tVar 4) "order") [4] [v0, v1, v2, v3, v4] H1 Q := by
  subst e0
  refine ⟨_, rfl, p, a.cM, dx, _, _, rfl, hp, T.cl_M, nf, hf, lq, rfl, ⟨_, SqL.of hq⟩, fun D nD => ?_⟩
  refine lc_list (K := K) (a := lq) (xs := ws.map V.ref) (fun n H2 => ∃ ts : List Addr, Gr a H1 H2 ∧ H2 D = some (.lst (ts.map V.ref)) ∧ Paired (fun q l => H2 q = some (.tup (natV l))) ts (L.take n) ∧ ts.length = n) ⟨[], Gx.new nD, upd_same, .nil, rfl⟩ (fun n H2 _ ⟨_, g, _⟩ => SqL.of (Gr.lst g hq)) ?_ ?_
  · rintro n x H2 hx ⟨ts, g, hD, pt, htl⟩
    obtain ⟨q, hq, rfl⟩ := map_get hx
    obtain ⟨l, hl, wl⟩ := paired_get' pW hq
    obtain ⟨dx', t', d', e1, e2, e3⟩ := wl.gr g
    have hn : n < L.length := (List.getElem?_eq_some_iff.mp hl).1
    refine ⟨rfl, tYes_ok ?_⟩
    refine iteT ?_
    refine ⟨_, rfl, q, a.cW, dx', _, _, rfl, e1, T.cl_W, T.n_W_order, wf_order _ _, _, hD, ?_, ts ++ [t'], Gx.app g nD hD rfl, by rw [upd_same, List.map_append]; rfl, ?_, by rw [List.length_append, htl]; rfl⟩
    · rw [List.length_map, htl]
      have : sizeLine = 16777216 := sizeLine_eq
      omega
    · rw [take_snoc hl]
      refine paired_snoc ?_ (Paired.mapP pt fun q l h => upd_tup h hD)
      exact upd_tup e2 hD
  · rintro H2 ⟨ts, g, hD, pt, htl⟩
    rw [List.length_map, pW.length, List.take_length] at pt
    exact k D H2 ts g hD nD pt
theorem sc_M_with_list : FnScope ["self", "asker", "order", "lists", "wish"] ["self", "asker", "order"] (defScope s_M_with_list) := ⟨rfl, rfl, rfl, by decide +kernel, rfl, by decide +kernel, by decide +kernel⟩
theorem ok_M_with_list (T : Txt K mg base a) : FnOk P w K mg base CX0 5 a.f_M_with_list a.d_M_with_list ["self", "asker", "order"] (spWithList a) := by
  have GI : FnOk P w K mg base CX0 3 a.f_M_init a.d_M_init ["self", "lists", "orders", "seats"] (spMInit a) := ok_M_init T
  refine T.F_M_with_list.ok sc_M_with_list (fun vs H Q E h => ?_) (fun cdv A outer s H vs Q E hr h => ?_)
  · obtain ⟨p, t, k, o, L, O, S, rfl, _⟩ := h
    rfl
  · obtain ⟨p, t, k, o, L, O, S, rfl, M, wf, hk, ht, ho, tb, kk⟩ := h
    obtain ⟨dx, la, lr, ts, as, rs, h1, h2, h3, h4, h5, h6⟩ := id M
    have nd := sc_M_with_list.nd
    have NN : BlkOk ["self", "asker", "order", "lists", "wish"] (defScope s_M_with_list) { kind := .function, names := [(".0", .local), ("wish", .local)], isGenerator := false, isCoroutine := false } [("wish", 4)] := blkOk_by (by decide +kernel)
    refine ⟨_, pss_cons (ps_setLc (i := 3) (own := [("wish", 4)]) (g := gName 4) (tt := tYes) (te := tFld K (tVar 4) "order") rfl nd rfl rfl (sw_true rfl rfl rfl (by decide +kernel)) (pi_list (pe_fld (pv 0) rfl)) (blkOk_by (N := ["self", "asker", "order", "lists", "wish"]) (sc := defScope s_M_with_list) (by decide +kernel))
          (fun _ _ _ _ _ => pg_name (i := 4) nd rfl (Or.inl rfl)) (fun _ _ _ _ _ => pts_nil) (fun _ _ _ _ _ => pe_fld (pv 4) rfl))
      (pss_cons (ps_asg (pe_callTy call_tupleT (by rfl) T.z_tuple bt_tuple (pa_cons (pv 2) pa_nil)) (pg_sub (pv 3) (pv 1) set_list))
      (pss_one (ps_ret (pe_make T.mk_M GI hr (by rfl) T.gc_M T.b_M_init .nil pass0 (pa_cons (pv 3) (pa_cons
          (pe_lc (own := [("wish", 4)]) (g := gName 4) (tt := tYes) (te := tFld K (tVar 4) "order") rfl nd (pi_list (pe_fld (pv 0) rfl)) (blkOk_by (N := ["self", "asker", "order", "lists", "wish"]) (sc := defScope s_M_with_list) (by decide +kernel))
            (fun _ _ _ _ _ => pg_name (i := 4) nd rfl (Or.inl rfl)) (fun _ _ _ _ _ => pts_nil) (fun _ _ _ _ _ => pe_fld (pv 4) rfl)) (pa_cons (pe_fld (pv 0) rfl) pa_nil))))))), ?_⟩
    have hlL : L.length ≤ 1000 := Nat.le_trans wf.la (by decide)
    have hlO : O.length ≤ 1000 := Nat.le_trans wf.lo (by decide)
    dsimp only [tSeq, tAsg]
    refine orders_comp T rfl h1 T.n_M_askers (mf_askers _ _ _) h2 h5 hlL fun D1 H1 us g1 hD1 nD1 pu => ?_
    have hkl : k < us.length := by rw [pu.length]; exact hk
    have ht1 := Gr.tup g1 ht
    refine ⟨_, rfl, t, _, rfl, SqT.of ht1, _, rfl, _, rfl, D1, _, _, k, rfl, rfl, hD1, ixN_nat (by rw [List.length_map]; exact hkl), ?_⟩
    generalize hH2 : upd H1 D1 (HO.lst ((us.map V.ref).set k (V.ref t))) = H2
    have g2 : Gr a H H2 := by rw [← hH2]; exact Gx.app g1 nD1 hD1 rfl
    have hD2 : H2 D1 = some (.lst ((us.set k t).map V.ref)) := by rw [← hH2, upd_same, List.map_set]
    have pu2 : Paired (fun q l => H2 q = some (.tup (natV l))) (us.set k t) (L.set k o) := by
      refine paired_set ?_ k (Paired.mapP pu fun q l h => ?_)
      · rw [← hH2]; exact upd_tup ht1 hD1
      · rw [← hH2]; exact upd_tup h hD1
    refine ⟨_, rfl, ?_⟩
    dsimp only [tCons]
    refine orders_comp T rfl (Gr.ins g2 h1) T.n_M_rooms (mf_rooms _ _ _) (Gr.lst g2 h3) (Paired.mapP h6 fun _ _ x => x.gr g2) hlO fun D3 H3 vs g3 hD3 nD3 pv3 => ?_
    have g23 := g2.trans g3
    refine ⟨_, rfl, p, a.cM, dx, _, _, rfl, Gr.ins g23 h1, T.cl_M, T.n_M_seats, mf_seats _ _ _, ?_⟩
    intro x dy nx ndx ne
    have g4 : Gr a H3 (upd (upd H3 dy (.own x)) x (.ins a.cM dy [])) := Gx.inst nx ndx ne
    have g34 := g3.trans g4
    refine ⟨x, dy, D1, D3, ts, _, _, L.set k o, O, S, rfl, upd_same, Gr.lst g34 hD2, Paired.mapP pu2 fun q l h => .inr (Gr.tup g34 h), Gr.lst g4 hD3, Paired.mapP pv3 fun q l h => .inr (Gr.tup g4 h), .inr (Gr.tup (g23.trans g4) h4), wf.set ho, (g23.trans g4).tb tb, fun H5 M5 g5 => ⟨rfl, ?_⟩⟩
    exact kk x H5 (Gx.over (g23.trans g4) g5 fun b hb => by rw [List.mem_singleton.mp hb]; exact g23.free _ nx) M5
end
end K6

/-! ## KLam1 -/
set_option maxRecDepth 100000
set_option maxHeartbeats 4000000
/-! max(list, key=lambda x: ..). -/
namespace K6
open PySem PySem.Spec PyProof.Rows L2
section
variable {X : Cx} {pins : List (Addr × Obj)} {σ : L2.St} {H HZ : Hp} {s s1 : Shared}
/-- the lambda is made: its code object is new, or found in the table; how the heap has grown -/
theorem lam_make6 {a : Ad} {c : Addr} {params : Arguments} {body : Expr} {scope : Scope} {pos : Pos} {E : Value → Shared → Prop} {Q : Value → Shared → Prop} (I : L2.Inv X pins σ H s) (TB : LamX.TabB X.base X.mg c a.p4) (hcode : X.env.code = .ref c)
    (hq : X.env.qual ++ "<lambda>" = "Wish.worst.<locals>.<lambda>") (h41 : a.p4 ≠ a.p1) (h42 : a.p4 ≠ a.p2) (h43 : a.p4 ≠ a.p3) (tb : Tb a H) (hdef : defaultsOf params X.env = ([], [])) (hfree : ∀ y ∈ scope.names, y.2 = .free → ∃ c, X.env.cells.lookup y.1 = some c)
    (h : ∀ (f c' : Addr) (pm ctv : Value) (H1 : Hp) (s' : Shared), L2.Inv X pins σ H1 s' → Gr a H H1 →
      s'.heap.get? f = some (PySem.W.kla_obj "<lambda>" (X.env.qual ++ "<lambda>") params body scope (cloFrom X.env.cells scope.names []) pm c' ctv) → H1 f = none → f ∉ frs X.stack → H1 c' = some (LamX.CodeO c' (X.env.qual ++ "<lambda>")) → Q (.ref f) s') :
    wpAny (model X.prog X.w) X.A (eval (.Lambda params body scope pos) X.env) Q E s := by
  obtain ⟨t1, t2, t3, t4⟩ := id tb
  obtain ⟨ps, hP, ht, ha⟩ := id t4
  refine PySem.W.kla_eval hdef ?_
  have bP : s.heap.BuiltinsAt X.mg a.p4 := TB.bm.keeps I.bk
  have hP' : s.heap.get? a.p4 = some { cls := .none, data := .fields ps } := I.hok a.p4 _ hP
  have nofr : ∀ f, s.heap.objs.size ≤ f → f ∉ frs X.stack := fun f hf z => by
    rcases List.mem_cons.mp (I.stkSub _ z) with e | e
    · have h1 := I.lt
      rw [← e] at h1
      exact Nat.lt_irrefl _ (Nat.lt_of_lt_of_le h1 hf)
    · exact I.nofs hf e
  cases hc : codeAmong pos ps.toList with
  | none =>
    refine PySem.W.kla_makeFunction (mg := X.mg) (c := c) (P := a.p4) (ps := ps) (closure_ok hfree) I.ok.glob (I.mod.glob.keeps I.bk) hcode (TB.code.keeps I.bk) hP' ht hc TB.gP bP fun c' ctv h' tk hx hge hlt hrec htb => ?_
    obtain ⟨c2, oc, vs, t, e2, hoc, hd, hv⟩ := hrec
    cases e2
    have hsz : s.heap.objs.size ≤ h'.objs.size := Nat.le_trans hge (Nat.le_of_lt hlt)
    have nC : H c' = none := I.hok.fresh hge
    have I1 := LamX.inv_table (t' := tk) (more := #[rawInt pos.line, rawInt pos.col, .ref c']) (h' := h'.push (PySem.W.kla_obj "<lambda>" (X.env.qual ++ "<lambda>") params body scope (cloFrom X.env.cells scope.names []) ((X.mg "__name__").getD .none) c' ctv)) I hP
      (fun b o hb e => Heap.get?_push_of_some _ (hx b o hb e)) (Heap.get?_push_of_some _ htb) hge ⟨oc, vs, t, Heap.get?_push_of_some _ hoc, hd, hv⟩
    have at_ : ∀ b, b ≠ a.p4 → b ≠ c' → upd (upd H a.p4 (.tbl (ps ++ #[rawInt pos.line, rawInt pos.col, .ref c']))) c' (LamX.CodeO c' (X.env.qual ++ "<lambda>")) b = H b := fun b h1 h2 => by rw [upd_ne h2, upd_ne h1]
    have kp : ∀ b o, H b = some o → nt o = true → upd (upd H a.p4 (.tbl (ps ++ #[rawInt pos.line, rawInt pos.col, .ref c']))) c' (LamX.CodeO c' (X.env.qual ++ "<lambda>")) b = some o := fun b o e n => by
      rw [at_ b (fun z => by rw [z, hP] at e; cases e; cases n) (ne_of_none e nC)]
      exact e
    have eL : (ps ++ #[rawInt pos.line, rawInt pos.col, .ref c']).toList = ps.toList ++ [rawInt pos.line, rawInt pos.col, .ref c'] := by simp
    have tG : ∀ b, b ≠ a.p4 → GxR.TabG H b → GxR.TabG (upd (upd H a.p4 (.tbl (ps ++ #[rawInt pos.line, rawInt pos.col, .ref c']))) c' (LamX.CodeO c' (X.env.qual ++ "<lambda>"))) b := fun b hb ⟨q, e1, e2⟩ => ⟨q, by rw [at_ b hb (ne_of_none e1 nC)]; exact e1, e2⟩
    have n1 : h'.objs.size ≠ c' := Nat.ne_of_gt hlt
    have n2 : h'.objs.size ≠ a.p4 := Nat.ne_of_gt (Nat.lt_of_lt_of_le (Heap.lt_size hP') hsz)
    refine h h'.objs.size c' ((X.mg "__name__").getD .none) ctv _ _ I1 ⟨fun b o e _ n => kp b o e n, fun _ => ⟨tG _ (Ne.symm h41) t1, tG _ (Ne.symm h42) t2, tG _ (Ne.symm h43) t3, ?_⟩, fun b e => ?_⟩ (Heap.get?_push_size _ rfl) ?_ (nofr _ hsz) upd_same
    · refine ⟨_, by rw [upd_ne (ne_of_none hP nC), upd_same], by rw [eL]; exact PySem.TriplesOk_snoc _ _ _ _ ht, fun p' cv hcv => ?_⟩
      rw [eL] at hcv
      rcases LamX.among_app _ ht hcv with z | z
      · obtain ⟨c0, e1, e2⟩ := ha p' cv z
        exact ⟨c0, e1, kp _ _ e2 rfl⟩
      · rw [← hq]; exact ⟨c', z, upd_same⟩
    · by_cases hb : b = c'
      · rw [hb, upd_same] at e; cases e
      · by_cases hb2 : b = a.p4
        · rw [hb2, upd_ne (ne_of_none hP nC), upd_same] at e; cases e
        · rw [at_ b hb2 hb] at e; exact e
    · rw [upd_ne n1, upd_ne n2]
      exact I.hok.fresh hsz
  | some cv =>
    obtain ⟨c', e, hco⟩ := ha pos cv hc
    subst e
    refine PySem.W.kla_makeFunctionHit (mg := X.mg) (c := c) (P := a.p4) (ps := ps) (closure_ok hfree) I.ok.glob (I.mod.glob.keeps I.bk) hcode (TB.code.keeps I.bk) hP' ht hc bP fun ctv h' tk hx hsz => ?_
    have I1 : L2.Inv X pins σ H { s with heap := h'.push (PySem.W.kla_obj "<lambda>" (X.env.qual ++ "<lambda>") params body scope (cloFrom X.env.cells scope.names []) ((X.mg "__name__").getD .none) c' ctv), toks := tk } := I.kept fun b o e => Heap.get?_push_of_some _ (hx b o e)
    exact h h'.objs.size c' ((X.mg "__name__").getD .none) ctv H _ I1 Gx.refl (Heap.get?_push_size _ rfl) (I.hok.fresh hsz) (nofr _ hsz) (by rw [hq]; exact hco)
/-- one parameter x, captured names, globals -/
structure LamS1 (sc scope : Scope) (x : Str) : Prop where
  kind : scope.kind = .function
  co : scope.isCoroutine = false
  gen : scope.isGenerator = false
  cell : ∀ y ∈ scope.names, y.2 ≠ .cell
  loc : ∀ y ∈ scope.names, y.2 = .local → y.1 = x
  par : scope.names.lookup x = some .local
  free : ∀ y ∈ scope.names, y.2 = .free → sc.names.lookup y.1 = some .cell ∨ sc.names.lookup y.1 = some .free
theorem LamS1.has {scope : Scope} {x : Str} (L : LamS1 X.env.scope scope x) (ok : X.Ok) : ∀ y ∈ scope.names, y.2 = .free → ∃ c, X.env.cells.lookup y.1 = some c := fun y hy e => by
  rcases L.free y hy e with k | k
  · exact ok.has _ (.inl k)
  · exact ok.has _ (.inr k)
/-- the context of the lambda's body; nothing is raised -/
def lamCx1 (X : Cx) (A : Around) (outer : List Env) (s : Shared) (H : Hp) (scope : Scope) (f c' : Addr) : Cx where
  prog := X.prog
  w := X.w
  K := X.K
  mg := X.mg
  base := X.base
  A := A.deeper (LamX.lamEnv X scope s.heap.objs.size f c')
  N := X.N
  s_0 := s
  H_0 := H
  env := LamX.lamEnv X scope s.heap.objs.size f c'
  outer := outer
  stack := LamX.lamEnv X scope s.heap.objs.size f c' :: outer
  ex := []
  fn := fun _ => false
  calm := true
  pn := []
  xe := fun _ _ => False
theorem lam1_start {A : Around} {outer : List Env} {scope : Scope} {x : Str} {j : Nat} {v : V} {u : Value} {f c' : Addr} {h₁ : Heap} {tk : Nat} (I : L2.Inv X pins σ H s) (L : LamS1 X.env.scope scope x) (hj : X.N[j]? = some x) (hN : X.N.Nodup) (rv : RelV v u)
    (e0 : Env0 X.prog X.w X.K X.mg X.base A outer s H) (hd : A.handled = none)
    (hns : h₁.Ns s.heap.objs.size fun y => ([(x, u)] : List (Str × Value)).reverse.lookup y) (kp : ∀ b o, s.heap.get? b = some o → h₁.get? b = some o) :
    L2.Inv (lamCx1 X A outer s H scope f c') [] (σ.set j (some v)) H { s with heap := h₁, toks := tk } := by
  have hfree := L.has I.ok
  have cm : ∀ {y c}, (cloFrom X.env.cells scope.names []).lookup y = some c → X.env.cells.lookup y = some c := fun {y c} e => by
    rcases cloFrom_mem (PySem.mem_of_lookup e) with hm | ⟨h1, h2⟩
    · cases hm
    · obtain ⟨c1, hc⟩ := hfree _ h1 rfl
      have hc : X.env.cells.lookup y = some c1 := hc
      have e2 : c = c1 := by
        rw [h2, hc] <;> rfl
      rw [e2]
      exact hc
  have look : ∀ {y}, scope.names.lookup y = some .free → ∃ c, (cloFrom X.env.cells scope.names []).lookup y = some c := fun {y} hl => by
    have hy : (y, NameKind.free) ∈ scope.names := PySem.mem_of_lookup hl
    exact mem_lookup (cloFrom_has (cells := X.env.cells) (acc := []) hy)
  have cellK : ∀ {c : Addr} {v : Option Value}, s.heap.IsCell c v → h₁.IsCell c v := fun {c v} ⟨o, ho, hd⟩ => ⟨o, kp _ _ ho, hd⟩
  have noA : ∀ b : Addr, b ∉ (lamCx1 X A outer s H scope f c').ex := fun b z => absurd (show b ∈ ([] : List Addr) from z) (by simp)
  have hmx : (fun y => ([(x, u)] : List (Str × Value)).reverse.lookup y) x = some u := by simp
  refine ⟨⟨e0.mod, L.kind, rfl, rfl, Nat.le_refl _, fun y z c e1 e2 => I.ok.inj y z c (cm e1) (cm e2), fun y hy => ?_, fun y c z _ => ?_, fun _ => hd, Around.frames_deeper e0.frames, .inr ⟨rfl, rfl⟩, fun b z => absurd z (noA b), e0.bs, e0.bsz, fun b _ _ => noA b,
      fun b z => absurd z (noA b), e0.funs, e0.frf⟩,
    rfl, e0.bare, Un.kept kp, ⟨_, hns, fun i y w' e1 e2 e3 => ?_⟩, fun y c e => ?_, e0.hok.fresh (Nat.le_refl _), fun y c e => ?_, fun q hq => absurd (show q ∈ ([] : List (Addr × Obj)) ++ [] from hq) (by simp), e0.hok.kept kp, ?_⟩
  · have hy : scope.names.lookup y = some .cell ∨ scope.names.lookup y = some .free := hy
    rcases hy with hy | hy
    · exact absurd rfl (L.cell _ (PySem.mem_of_lookup hy))
    · exact look hy
  · have z : false = true := z
    cases z
  · have e3 : Vis scope y := e3
    have e1 : X.N[i]? = some y := e1
    rcases e3 with k | k | k
    · have ey : y = x := L.loc _ (PySem.mem_of_lookup k) rfl
      subst ey
      have ij : i = j := nodup_ix hN e1 hj
      subst ij
      rw [List.getElem?_set_self] at e2
      · cases e2
        exact ⟨u, rv, .inl ⟨k, hmx⟩⟩
      · have := I.len
        have := (List.getElem?_eq_some_iff.mp e1).1
        omega
    · exact absurd rfl (L.cell _ (PySem.mem_of_lookup k))
    · have ij : j ≠ i := fun z => by
        subst z
        rw [hj] at e1
        cases e1
        have := L.par
        rw [k] at this
        cases this
      rw [List.getElem?_set_ne ij] at e2
      obtain ⟨m, hn, hl⟩ := I.loc
      have hvis : Vis X.env.scope y := (L.free _ (PySem.mem_of_lookup k) rfl).elim (fun k => .inr (.inl k)) (fun k => .inr (.inr k))
      obtain ⟨w2, r, q⟩ := hl i y w' e1 e2 hvis
      obtain ⟨c2, h2⟩ := look k
      refine ⟨w2, r, .inr ⟨.inr k, c2, h2, ?_⟩⟩
      have c1 := cm h2
      rcases q with ⟨k', _⟩ | ⟨_, c3, e', z⟩
      · have k' : X.env.scope.names.lookup y = some .local := k'
        rcases L.free _ (PySem.mem_of_lookup k) rfl with k2 | k2 <;> rw [show X.env.scope.names.lookup y = _ from k2] at k' <;> cases k'
      · rw [c1] at e'
        cases e'
        exact cellK z
  · obtain ⟨w', z⟩ := I.cell y c (cm e)
    exact ⟨w', cellK z⟩
  · obtain ⟨v, o, ho, hd⟩ := I.cell y c (cm e)
    exact I.freeC y c (cm e)
  · rw [List.length_set]
    exact I.len
theorem inv_turnedL {t' : Nat} {ch : List Addr} {h' : Heap} (I : L2.Inv X pins σ H s) (k : ∀ b o, b ∉ ch → s.heap.get? b = some o → h'.get? b = some o) (hf : ∀ b ∈ ch, FpOk X pins H b) : L2.Inv X pins σ H { s with heap := h', toks := t' } := by
  have nit : ∀ b u, H b = some u → b ∉ ch := fun b u e z => by
    have q := (hf b z).1
    rw [q] at e; cases e
  refine I.step (g' := s.gens) (d' := s.drawn) (ch := ch) (fun b hb => ⟨(hf b hb).2.2.2.1, (hf b hb).2.1, (hf b hb).2.2.2.2.1, (hf b hb).2.2.2.2.2⟩) (fun b o _ _ hc e _ => k b o hc e) (fun b o _ _ hc e _ => ⟨o.slots, k b o hc e⟩)
    (fun b o _ e n => n) (fun b o hc e => ⟨o, k b o hc e⟩) (fun b xs e => e) (fun b o u e => e) (fun b ps e => ⟨#[], by rw [e]; simp⟩) (fun m hm => ?_) (fun b u e => ?_) I.bare
  · obtain ⟨o, es, ep, ho, r⟩ := hm
    exact ⟨o, es, ep, k _ o (fun z => (hf _ z).2.1 rfl) ho, r⟩
  · refine (I.hok b u e).stay (fun c v hc q => k c v ?_ q) (fun c q => q) fun c xs q => q
    rcases hc with z | z
    · rw [z]; exact nit b u e
    · exact nit c _ z
theorem argBest_le (bt : Nat → Nat → Bool) : ∀ j, argBest bt j ≤ j
  | 0 => Nat.le_refl _
  | j + 1 => by
    unfold argBest
    split
    · exact Nat.le_refl _
    · exact Nat.le_succ_of_le (argBest_le bt j)
theorem argBest_max (kf : Nat → Int) : ∀ j i, i ≤ j → kf i ≤ kf (argBest (fun i j => decide (kf i > kf j)) j)
  | 0, i, h => by
    have : i = 0 := by omega
    subst this
    exact Int.le_refl _
  | j + 1, i, h => by
    have ih := argBest_max kf j
    unfold argBest
    split
    · rename_i hb
      have hb := of_decide_eq_true hb
      by_cases e : i = j + 1
      · rw [e]; exact Int.le_refl _
      · have := ih i (by omega); omega
    · rename_i hb
      have hb : ¬ kf (j + 1) > kf (argBest (fun i j => decide (kf i > kf j)) j) := fun z => hb (decide_eq_true z)
      by_cases e : i = j + 1
      · rw [e]; omega
      · exact ih i (by omega)
def tMaxL (a : Ad) (te tb : TE) (j : Nat) : TE := fun σ H Q => te σ H fun v H1 => ∃ (l : Addr) (od : Obj) (xs : List Nat) (kf : Nat → Int), v = .ref l ∧ H1 l = some (.frz od (.lst (natV xs))) ∧ xs ≠ [] ∧ Tb a H1 ∧
  (∀ n, n ∈ xs → ∀ H2, Gr a H1 H2 → tb (σ.set j (some (.int (n : Nat)))) H2 (fun y H3 => y = .int (kf n) ∧ H3 = H2)) ∧ ∀ (d : Nat) H2, d ∈ xs → (∀ n, n ∈ xs → kf n ≤ kf d) → Gr a H1 H2 → Q (.int (d : Nat)) H2
theorem pe_maxLam {a : Ad} {c : Addr} {e : Expr} {x : Str} {j k : Nat} {params : Arguments} {body : Expr} {scope : Scope} {lpos p kp pos : Pos} {te tb : TE}
    (hr : Room (k + 2) X.A) (hg : Gl X "max") (hm : X.mg "max" = none) (TB : LamX.TabB X.base X.mg c a.p4) (hcode : X.env.code = .ref c)
    (hq : X.env.qual ++ "<lambda>" = "Wish.worst.<locals>.<lambda>") (h41 : a.p4 ≠ a.p1) (h42 : a.p4 ≠ a.p2) (h43 : a.p4 ≠ a.p3) (hdef : defaultsOf params X.env = ([], [])) (L : LamS1 X.env.scope scope x) (hj : X.N[j]? = some x) (hN : X.N.Nodup)
    (hbind : ∀ (cl : List (Str × Addr)) (pm ctv v : Value) (c' : Addr), bindArgs (PySem.W.kla_fn "<lambda>" (X.env.qual ++ "<lambda>") params body scope cl pm (.ref c') ctv) ⟨[v], []⟩ = pure [(x, v)])
    (he : PE X e te) (hbody : ∀ (A : Around) (outer : List Env) (s : Shared) (H : Hp) (f c' : Addr), Room k (A.deeper (LamX.lamEnv X scope s.heap.objs.size f c')) → PE (lamCx1 X A outer s H scope f c') body tb)
    (hb : backTo pos (starEach [e] X.env) = (false, eval e X.env) :: backTo pos (starEach [] X.env) := by rfl) (hpl : (backTo pos (starEach [e] X.env)).any (·.1) = false := by rfl)
    (hall : (backToKw pos (keywordEach [⟨some "key", .Lambda params body scope lpos, kp⟩] X.env)).all (·.1.isSome) = true := by rfl) (hnone : (backToKw pos (keywordEach [⟨some "key", .Lambda params body scope lpos, kp⟩] X.env)).any (·.1.isNone) = false := by rfl)
    (hs : starEach [e] X.env = (false, eval e X.env) :: starEach [] X.env := by rfl) :
    PE X (.Call (.Name "max" p) [e] [⟨some "key", .Lambda params body scope lpos, kp⟩] pos) (tMaxL a te tb j) := by
  refine ⟨fun pins s σ H Q I h => ?_⟩
  refine wpAny_Call_Name_kw (ld_blt I hg hm bt_max ?_)
  refine PyProof.Rows.callWith_kw (thn ((pa_cons he pa_nil hs).run pos pins s σ H (fun vs H1 => match vs with
    | [v] => ∃ (l : Addr) (od : Obj) (xs : List Nat) (kf : Nat → Int), v = .ref l ∧ H1 l = some (.frz od (.lst (natV xs))) ∧ xs ≠ [] ∧ Tb a H1 ∧
    (∀ n, n ∈ xs → ∀ H2, Gr a H1 H2 → tb (σ.set j (some (.int (n : Nat)))) H2 (fun y H3 => y = .int (kf n) ∧ H3 = H2)) ∧ ∀ (d : Nat) H2, d ∈ xs → (∀ n, n ∈ xs → kf n ≤ kf d) → Gr a H1 H2 → Q (.int (d : Nat)) H2
    | _ => False) I h) fun us s1 ⟨vs, H1, I1, r1, q1⟩ => ?_) hb hpl hall hnone
  obtain ⟨v, rfl⟩ : ∃ v, vs = [v] := by
    match vs, q1 with
    | [v], _ => exact ⟨v, rfl⟩
  obtain ⟨l, od, xs, kf, rfl, hl, hne, tbl, hbd, hQ⟩ := q1
  obtain ⟨u, rfl, ru⟩ := vals1 r1
  cases ru
  show wpAny _ _ (evalAll ((do let v ← eval (.Lambda params body scope lpos) X.env; standAt pos; pure v) :: [])) _ _ s1
  refine wpAny_evalAll_cons (wpAny_bind (lam_make6 I1 TB hcode hq h41 h42 h43 tbl hdef (L.has I.ok) fun f c' pm ctv H2 s2 I2 g2 hf fN ffr hc' => wpAny_bind (wpAny_standAt (wpAny_pure (wpAny_evalAll_nil ?_)))))
  show wpAny _ _ (call (.builtin "max") [.ref l] [(Str.ofString "key", .ref f)]) _ _ s2
  have hl2 : H2 l = some (.frz od (.lst (natV xs))) := g2.keep _ _ hl (by simp) rfl
  obtain ⟨ol, olk⟩ := I2.hok l _ hl2
  obtain ⟨hz, its, nn, rv, ol'⟩ := olk
  rw [ol] at ol'
  obtain rfl := Option.some.inj ol'
  have hh : X.A.handled = none := hr.hd
  refine call_max_walkK ?_
  have hL : s2.heap.IsList l its.toArray := ⟨_, ol, rfl, nn, rfl⟩
  refine wpAny_pyIter_list hL ?_
  have nS : ∀ b, s2.heap.objs.size ≤ b → FpOk X pins H2 b := fun b hb => I2.fpOk hb (I2.hok.fresh hb)
  have nfr : ∀ b, s2.heap.objs.size ≤ b → b ∉ frs X.stack := fun b hb z => by
    rcases List.mem_cons.mp (I2.stkSub _ z) with e | e
    · exact (nS b hb).2.1 e
    · exact (nS b hb).2.2.1 e
  have nL : l ≠ s2.heap.objs.size := Nat.ne_of_lt (Heap.lt_size ol)
  have nf : f ≠ s2.heap.objs.size := Nat.ne_of_lt (Heap.lt_size hf)
  have hsz : s2.heap.objs.size ≤ (s2.heap.push { cls := .type "list_iterator", data := .fields #[.ref l, .int 0 0] }).objs.size := by simp [Heap.push]
  have hsz2 : (s2.heap.push { cls := .type "list_iterator", data := .fields #[.ref l, .int 0 0] }).objs.size = s2.heap.objs.size + 1 := by simp [Heap.push]
  have nIS : s2.heap.objs.size ≠ s2.heap.objs.size + 1 := by omega
  generalize hI : s2.heap.objs.size = II at *
  refine ⟨II, [II, l], [II], (fun a b => b = a), its.toArray.size, _, _, (fun s' => Inv X pins σ H2 s' ∧ s'.heap.get? f = s2.heap.get? f), (fun i k _ => ∃ t, k = .int (kf (xs.getD i 0)) t),
    (fun i j => decide (kf (xs.getD i 0) > kf (xs.getD j 0))), rfl, (Walks.list (A := X.A.in1) hh II l nL its.toArray).toS, ?_, ?_, ?_, ?_, ?_, ?_⟩
  · refine ⟨⟨_, by rw [← hI]; exact Heap.get?_push_size _ rfl, rfl, rfl⟩, _, Heap.get?_push_of_some _ ol, rfl, nn, rfl⟩
  · intro b hb
    refine Nat.lt_of_lt_of_le ?_ (Nat.le_of_eq hsz2.symm)
    rcases List.mem_cons.mp hb with e | e
    · rw [e]; exact Nat.lt_succ_self _
    · rw [List.mem_singleton.mp e]; exact Nat.lt_succ_of_lt (hI ▸ Heap.lt_size ol)
  · have h1 : its.toArray.size = xs.length := by
      have := rv.length
      rw [natV_len] at this
      simpa using this.symm
    rw [h1]
    exact List.length_pos_iff.mpr hne
  · refine ⟨fun s' s'' hJ hm => ?_, fun i k s' s'' hV _ => hV, fun i v s' o Q' E' hi hP hJ hst hS hq => ?_, fun i j ki kj s' Q' E' hJ ⟨t1, e1⟩ ⟨t2, e2⟩ hq => ?_⟩
    · obtain ⟨hh', gg, dd, tt, oo⟩ := s''
      obtain rfl : gg = _ := hm.gens
      obtain rfl : dd = _ := hm.drawn
      obtain rfl : oo = _ := hm.os
      refine ⟨inv_turnedL (t' := tt) hJ.1 (fun b o hb e => hm.heap b o hb e) (fun b hb => ?_), ?_⟩
      · rcases List.mem_cons.mp hb with e | e
        · rw [e]; exact nS _ hsz
        · rw [List.mem_singleton.mp e]; exact nS _ (Nat.le_refl _)
      · rw [hf] at hJ ⊢
        refine hm.heap f _ (fun z => ?_) hJ.2
        rcases List.mem_cons.mp z with e | e
        · have e : f = II + 1 := e.trans hsz2
          have hfl : f < II := hI ▸ Heap.lt_size hf
          exact Nat.not_succ_lt_self (show Nat.succ II < II from by rw [e] at hfl; exact hfl)
        · exact nf (List.mem_singleton.mp e)
    · obtain ⟨J, hfk⟩ := hJ
      have hle : its.length = xs.length := by
        have := rv.length
        rw [natV_len] at this
        exact this.symm
      have hi' : i < xs.length := by rw [← hle]; simpa using hi
      obtain ⟨u, hu, ru⟩ := Vals.get (i := i) (x := .int (xs[i] : Nat)) rv (by simp [natV, hi'])
      have ev : v = u := by
        have hP : its.toArray[i]? = some v := hP
        rw [List.getElem?_toArray, hu] at hP
        exact (Option.some.inj hP).symm
      subst ev
      have of1 := hfk.trans hf
      obtain ⟨⟨oc, vs, t, hoc, hdc, hvc⟩, _, _⟩ := J.hok c' _ hc'
      refine wpAny_call (PySem.W.kla_callFunE (A := X.A.in1) hr.depth of1 rfl L.co L.gen rfl ⟨c', oc, vs, t, rfl, hoc, hdc, hvc⟩ ?_)
      rw [hbind]
      refine wpAny_pure (wpAny_newFunctionEnv L.cell (fun y hy => ?_) (fun h₁ hns hsb => ⟨J.nolimit.fresh _ hsb, ?_⟩) L.kind)
      · rw [List.mem_singleton.mp hy]; exact L.par
      show codeAny _ _ (.expr body (LamX.lamEnv X scope s'.heap.objs.size f c')) _ _
      have kp : ∀ b o, s'.heap.get? b = some o → h₁.get? b = some o := fun b o e => hsb.extBut b o (Nat.ne_of_lt (Heap.lt_size e)) (Heap.get?_push_of_some _ e)
      have J2 : Inv (lamCx1 X X.A.in1 X.stack s' H2 scope f c') [] (σ.set j (some (.int (xs[i] : Nat)))) H2 { s' with heap := h₁, toks := s'.toks + ([(x, v)] : List (Str × Value)).length } :=
        lam1_start J L hj hN ru J.env0.in1 hh hns kp
      refine PySem.W.kla_codeExpr (wpAny_mono ((hbody X.A.in1 X.stack s' H2 f c' (hr.in1.deeper _)).run [] _ _ H2 _ J2 (hbd xs[i] (List.getElem_mem hi') H2 g2)) (fun y s3 hq3 => ?_) fun e s3 hq3 => False.elim hq3)
      obtain ⟨w', H', J', rw', e1, e2⟩ := hq3
      subst e2; subst e1
      obtain ⟨t3, rfl⟩ := rw'
      refine hq _ _ ⟨?_, ?_⟩ ?_ ?_ ?_ ?_
      · obtain ⟨_, H3, J3, _, e3⟩ := J.after (Q := fun _ H'' => H'' = H') (u := .int (kf xs[i]) t3) ⟨.int (kf xs[i]), H', J'.os, J'.bare, J'.base, J'.hok, ⟨t3, rfl⟩, rfl⟩
        rw [← e3]; exact J3
      · rw [hf]; exact J'.base.keep f _ of1 fN ffr (fun z => nomatch (show f ∈ ([] : List Addr) from z))
      · obtain ⟨⟨oi, h1, h2⟩, h3⟩ := hst
        have h3' := h3
        obtain ⟨ox, h4, h5⟩ := h3
        refine ⟨⟨oi, J'.base.keep II _ h1 (nS II (Nat.le_refl _)).1 (nfr II (Nat.le_refl _)) (fun z => nomatch (show II ∈ ([] : List Addr) from z)), h2⟩, ?_⟩
        have hl3 := J'.base.frzs l _ _ hl2
        obtain ⟨ol3, _⟩ := J'.hok l _ hl3
        exact ⟨_, ol3, rfl, nn, rfl⟩
      · exact J'.base.keep _ _ hS (nS _ hsz).1 (nfr _ hsz) (fun z => nomatch (show _ ∈ ([] : List Addr) from z))
      · exact ⟨t3, by rw [List.getD_eq_getElem?_getD, List.getElem?_eq_getElem hi']; rfl⟩
      · exact fun _ _ z => z
    · subst e1; subst e2
      show wpAny _ _ (compareOp .Gt _ _) _ _ _
      exact SiftDown.gt_int hq
  · obtain ⟨n1, n2, n3, n4, n5, n6⟩ := nS II (Nat.le_refl _)
    refine ⟨I2.turned (it := II) (t' := s2.toks) (fun b o hb e => ?_) n1 n2 n4 n5 n6, ?_⟩
    · exact Heap.get?_push_of_some _ e
    · rw [hf]; exact Heap.get?_push_of_some _ hf
  · intro v s' hP hJ
    have hle : its.length = xs.length := by
      have := rv.length
      rw [natV_len] at this
      exact this.symm
    have hsx : its.toArray.size = xs.length := by simpa using hle
    rw [hsx] at hP
    have hpos : 0 < xs.length := List.length_pos_iff.mpr hne
    have hm := argBest_le (fun i j => decide (kf (xs.getD i 0) > kf (xs.getD j 0))) (xs.length - 1)
    generalize hM : argBest (fun i j => decide (kf (xs.getD i 0) > kf (xs.getD j 0))) (xs.length - 1) = M at *
    have hML : M < xs.length := by omega
    obtain ⟨u, hu, ru⟩ := Vals.get (i := M) (x := .int (xs[M] : Nat)) rv (by simp [natV, hML])
    have ev : v = u := by
      have hP : its.toArray[M]? = some v := hP
      rw [List.getElem?_toArray, hu] at hP
      exact (Option.some.inj hP).symm
    subst ev
    refine ⟨.int (xs[M] : Nat), H2, hJ.1, ru, hQ xs[M] H2 (List.getElem_mem hML) (fun n hn => ?_) g2⟩
    obtain ⟨q, hq, e⟩ := List.getElem_of_mem hn
    have := argBest_max (fun i => kf (xs.getD i 0)) (xs.length - 1) q (by omega)
    rw [hM] at this
    simp only [List.getD_eq_getElem?_getD, List.getElem?_eq_getElem hq, List.getElem?_eq_getElem hML, Option.getD_some] at this
    rw [← e]; exact this
end
end K6

/-! ## KWorst -/
set_option maxRecDepth 100000
set_option maxHeartbeats 4000000
/-! Wish.worst. -/
namespace K6
open PySem PySem.Spec PyProof.Rows L2
theorem shaped_all {ds : List PyData} (h : ∀ d, d ∈ ds → d.canLay0 = true ∧ d.depth ≤ 60) : PyData.canLayAll0 ds = true ∧ PyData.depthAll ds ≤ 60 := by
  induction ds with
  | nil => exact ⟨rfl, Nat.zero_le _⟩
  | cons d ds ih =>
    obtain ⟨h1, h2⟩ := h d (by simp)
    obtain ⟨h3, h4⟩ := ih fun x hx => h x (by simp [hx])
    refine ⟨by simp [PyData.canLayAll0, h1, h3], ?_⟩
    show max _ _ ≤ 60
    omega
theorem shaped_lst {ds : List PyData} (h : ∀ d, d ∈ ds → d.canLay0 = true ∧ d.depth ≤ 60) : SeqAt.shaped (.list ds) = true := by
  obtain ⟨h1, h2⟩ := shaped_all h
  simp only [SeqAt.shaped, PyData.canLay0, h1, Bool.true_and, decide_eq_true_eq]
  show PyData.depthAll ds + 1 ≤ 64
  omega
theorem shaped_tup {ds : List PyData} (h : ∀ d, d ∈ ds → d.canLay0 = true ∧ d.depth ≤ 60) : SeqAt.shaped (.tuple ds) = true := by
  obtain ⟨h1, h2⟩ := shaped_all h
  simp only [SeqAt.shaped, PyData.canLay0, h1, Bool.true_and, decide_eq_true_eq]
  show PyData.depthAll ds + 1 ≤ 64
  omega
theorem dpAll_nat {K : PySem.W.Frag} {H : Hp} : ∀ xs : List Nat, ∃ ds, DpAll K H (natV xs) ds ∧ ds.length = xs.length ∧ ∀ d, d ∈ ds → d.canLay0 = true ∧ d.depth ≤ 60
  | [] => ⟨[], .nil, rfl, fun _ z => by cases z⟩
  | x :: xs => by
    obtain ⟨ds, h, e, q⟩ := dpAll_nat (K := K) (H := H) xs
    refine ⟨.int x :: ds, .cons (.int _) h, by rw [List.length_cons, List.length_cons, e], fun d hd => ?_⟩
    rcases List.mem_cons.mp hd with rfl | hd
    · exact ⟨rfl, Nat.zero_le _⟩
    · exact q d hd
theorem eqv_nil (ds : List PyData) : PyData.eqv (.list ds) (.list []) = decide (ds = []) := by
  cases ds with
  | nil => rfl
  | cons d r => 
    show PyData.eqvAll (d :: r) [] = _
    simp [PyData.eqvAll]
/-- xs == [] -/
theorem eq_nilG {K : PySem.W.Frag} {H : Hp} {p e : Addr} {xs : List V} {Q : VK} (h : SqL K H p xs) (hd : ∃ ds, DpAll K H xs ds ∧ ds.length = xs.length ∧ ∀ d, d ∈ ds → d.canLay0 = true ∧ d.depth ≤ 60) (he : SqL K H e []) (k : Q (.bl (decide (xs = []))) H) : rEqD K (.ref p) (.ref e) H Q := by
  obtain ⟨ds, h1, h2, h3⟩ := hd
  refine ⟨.list ds, .list [], .lst h h1, .lst he .nil, shaped_lst h3, rfl, ?_⟩
  rw [eqv_nil]
  have e : decide (ds = []) = decide (xs = []) := by
    cases xs <;> cases ds <;> simp_all
  rw [e]; exact k
theorem ne_nilG {K : PySem.W.Frag} {H : Hp} {p e : Addr} {xs : List V} {Q : VK} (h : SqL K H p xs) (hd : ∃ ds, DpAll K H xs ds ∧ ds.length = xs.length ∧ ∀ d, d ∈ ds → d.canLay0 = true ∧ d.depth ≤ 60) (he : SqL K H e []) (k : Q (.bl (!decide (xs = []))) H) : rNeD K (.ref p) (.ref e) H Q := by
  obtain ⟨ds, h1, h2, h3⟩ := hd
  refine ⟨.list ds, .list [], .lst h h1, .lst he .nil, shaped_lst h3, rfl, ?_⟩
  rw [eqv_nil]
  have e : decide (ds = []) = decide (xs = []) := by
    cases xs <;> cases ds <;> simp_all
  rw [e]; exact k
theorem dpN {K : PySem.W.Frag} {H : Hp} (xs : List Nat) : ∃ ds, DpAll K H (natV xs) ds ∧ ds.length = (natV xs).length ∧ ∀ d, d ∈ ds → d.canLay0 = true ∧ d.depth ≤ 60 := by
  obtain ⟨ds, h, e, q⟩ := dpAll_nat (K := K) (H := H) xs
  exact ⟨ds, h, by rw [natV_len, e], q⟩
theorem filt_snoc {α : Type} {p : α → Bool} {xs : List α} {i : Nat} {x : α} (h : xs[i]? = some x) : (xs.take (i + 1)).filter p = (xs.take i).filter p ++ if p x then [x] else [] := by
  rw [take_snoc h, List.filter_append]
  congr 1
  cases e : p x <;> simp [List.filter, e]
theorem filt_yes {α : Type} {p : α → Bool} {xs : List α} {i : Nat} {x : α} (h : xs[i]? = some x) (hp : p x = true) : (xs.take (i + 1)).filter p = (xs.take i).filter p ++ [x] := by rw [filt_snoc h, if_pos hp]
theorem filt_no {α : Type} {p : α → Bool} {xs : List α} {i : Nat} {x : α} (h : xs[i]? = some x) (hp : p x = false) : (xs.take (i + 1)).filter p = (xs.take i).filter p := by rw [filt_snoc h, if_neg (by rw [hp]; decide), List.append_nil]
theorem filt_len {α : Type} (p : α → Bool) (xs : List α) (i : Nat) : ((xs.take i).filter p).length ≤ xs.length := Nat.le_trans (List.length_filter_le _ _) (List.length_take_le' ..)
theorem in_rk {o : List Nat} {n : Nat} : (valV (rkF 0 o) (Sum.inl (n : Int) : Key)).isSome = decide (n ∈ o) := by
  rw [rkF_val]
  by_cases h : n ∈ o
  · rw [if_pos h, decide_eq_true h]; rfl
  · rw [if_neg h, decide_eq_false h]; rfl
theorem sz1000 {n : Nat} (h : n ≤ 1000) : n < sizeLine := by
  have : sizeLine = 16777216 := sizeLine_eq
  omega
def spWorst (a : Ad) : Sp := fun vs H Q _ => ∃ (p t : Addr) (o xs : List Nat), vs = [.ref p, .ref t] ∧ WishAt a H p o ∧ H t = some (.tup (natV xs)) ∧ xs ≠ [] ∧ (∀ x, x ∈ xs → x ∈ o) ∧ xs.length ≤ 100 ∧ Tb a H ∧
  ∀ (d : Nat) H', d ∈ xs → (∀ x, x ∈ xs → o.idxOf x ≤ o.idxOf d) → Gr a H H' → Q (.int (d : Nat)) H'
theorem lam1_free {sc scope : Scope} (h : ∀ y ∈ scope.names, y.2 = .free → sc.names.lookup y.1 = some .cell ∨ sc.names.lookup y.1 = some .free) : ∀ y ∈ scope.names, y.2 = .free → sc.names.lookup y.1 = some .cell ∨ sc.names.lookup y.1 = some .free := h
section
variable {P : Program} {w : World} {K : PySem.W.Frag} {mg : Str → Option Value} {base : Heap} {a : Ad}
theorem sc_W_worst : FnScope ["self", "ones", "listed", "one"] ["self", "ones"] (defScope s_W_worst) := ⟨rfl, rfl, rfl, by decide +kernel, rfl, by decide +kernel, by decide +kernel⟩
theorem ok_W_worst (T : Txt K mg base a) : FnOk P w K mg base CX0 3 a.f_W_worst a.d_W_worst ["self", "ones"] (spWorst a) := by
  refine T.F_W_worst.ok sc_W_worst (fun vs H Q E h => ?_) (fun A outer s H vs Q E hr h => ?_)
  · obtain ⟨p, t, o, xs, rfl, _⟩ := h
    rfl
  · obtain ⟨p, t, o, xs, rfl, W, ht, hne, hin, hxl, tb, k⟩ := h
    obtain ⟨dx, to, d, h1, h2, h3⟩ := id W
    have nd := sc_W_worst.nd
    have hu := hu_of hr
    refine ⟨_, pss_cons (ps_setLc (i := 2) (own := [("one", 3)]) (g := gName 3) (te := tVar 3) rfl nd rfl rfl (sw_true rfl rfl rfl (by decide +kernel)) (pi_tup (pv 1)) (blkOk_by (N := ["self", "ones", "listed", "one"]) (sc := defScope s_W_worst) (by decide +kernel))
          (fun _ _ _ _ _ => pg_name (i := 3) nd rfl (Or.inl rfl)) (fun _ _ _ _ _ => pts_one (pt_cmp (pc_din (td := tFld K (tVar 0) "ranks") hu (pv 3) (pe_fld (pv 0) rfl)) rfl)) (fun _ _ _ _ _ => pv 3))
      (pss_one (ps_ret (pe_ifExp (pt_cmpR (op_eqD hr.units) (pv 2) (pe_lst pa_nil) (nomark _)) pe_non
        (pe_lock (pe_maxLam (a := a) (c := a.k4) (x := "one") (j := 3) (k := 0) (tb := tDGet (tFld K (tVar 0) "ranks") (tVar 3)) hr (by rfl) T.z_max T.t4 rfl rfl T.p41 T.p42 T.p43 rfl ⟨rfl, rfl, rfl, by decide +kernel, by decide +kernel, rfl, lam1_free (sc := defScope s_W_worst) (by decide +kernel)⟩ rfl nd (fun _ _ _ _ _ => rfl) (pv 2)
          (fun A outer s H f c' hr' => pe_dget (hu_of hr') (pe_fld (pv 0) rfl) (pv 3) (fun _ _ => rfl))))))), ?_⟩
    dsimp only [tNext, tSeq, tAsg]
    -- listed = [one for one in ones if one in self.ranks]
    refine ⟨_, rfl, t, rfl, ⟨_, SqT.of ht⟩, fun D nD => ?_⟩
    refine lc_tup (K := K) (a := t) (xs := natV xs) (fun i H' => Gr a H H' ∧ H' D = some (.lst (natV (xs.take i)))) ⟨Gx.new nD, upd_same⟩ (fun i H' _ ⟨g, _⟩ => SqT.of (Gr.tup g ht)) ?_ ?_
    · rintro i x H' hx ⟨g, hD⟩
      obtain ⟨n, hn, rfl⟩ := natV_get hx
      refine ⟨rfl, ?_⟩
      refine ⟨_, rfl, _, rfl, p, a.cW, dx, _, _, rfl, Gr.ins g h1, T.cl_W, T.n_W_ranks, wf_ranks _ _, d, _, rfl, DGet.k (k := Sum.inl (n : Int)) (Gr.dk g h3), _, rfl, ?_⟩
      rw [in_rk, decide_eq_true (hin n (List.mem_of_getElem? hn))]
      refine iteT ?_
      refine ⟨_, rfl, _, hD, sz1000 (by rw [natV_len]; exact Nat.le_trans (List.length_take_le' ..) (by omega)), Gx.app g nD hD rfl, ?_⟩
      rw [upd_same, natV_snoc, take_snoc hn]
    · rintro H1 ⟨g, hD⟩
      rw [natV_len, List.take_length] at hD
      refine ⟨_, rfl, Nat.zero_le _, fun e ne => ?_⟩
      refine eq_nilG (SqL.of (new_keep hD ne)) (dpN xs) (SqL.of upd_same) ⟨_, rfl, ?_⟩
      rw [decide_eq_false (by simpa [natV] using hne)]
      refine iteF ?_
      have g2 : Gr a H (upd H1 e (.lst [])) := g.trans (Gx.new ne)
      have hD2 := new_keep (o := .lst []) hD ne
      refine ⟨D, _, hD2, trivial, fun od => ?_⟩
      have g3 : Gx a [D] (upd H1 e (.lst [])) (upd (upd H1 e (.lst [])) D (.frz od (.lst (natV xs)))) := Gx.set hD2 rfl (by simp)
      have gF : Gr a H (upd (upd H1 e (.lst [])) D (.frz od (.lst (natV xs)))) := Gx.over g2 g3 fun b hb => by rw [List.mem_singleton.mp hb]; exact nD
      refine ⟨_, rfl, D, od, xs, fun n => (o.idxOf n : Nat), rfl, upd_same, hne, gF.tb tb, fun n hn H2 g4 => ?_, fun m H2 hm hmax g4 => ⟨g4.keep _ _ upd_same (by simp) rfl, ?_⟩⟩
      · have gN := gF.trans g4
        refine ⟨_, rfl, p, a.cW, dx, _, _, rfl, Gr.ins gN h1, T.cl_W, T.n_W_ranks, wf_ranks _ _, _, rfl, d, _, rfl, ?_, rfl, rfl⟩
        have := DGet.k (k := Sum.inl (n : Int)) (Gr.dk gN h3)
        rw [rkF_val, if_pos (hin n hn)] at this
        rw [Nat.zero_add] at this
        exact this
      · refine k m _ hm (fun x hx => by have h5 : ((o.idxOf x : Nat) : Int) ≤ ((o.idxOf m : Nat) : Int) := hmax x hx; omega) ?_
        exact Gx.over (gF.trans g4) (Gx.set (S := [D]) (g4.keep _ _ upd_same (by simp) rfl) rfl (by simp)) fun b hb => by rw [List.mem_singleton.mp hb]; exact nD
end
end K6

/-! ## KAsk1 -/
set_option maxRecDepth 100000
set_option maxHeartbeats 4000000
/-! those_in, Asking.__init__, Asking.wants. -/
namespace K6
open PySem PySem.Spec PyProof.Rows L2
/-- who is held by r -/
def inHd (hd : List (Option Nat)) (r : Nat) : List Nat := (List.range hd.length).filter fun i => decide (hd.getD i none = some r)
def optL (hd : List (Option Nat)) : List V := hd.map optV
theorem optL_len (hd : List (Option Nat)) : (optL hd).length = hd.length := List.length_map ..
theorem optL_get {hd : List (Option Nat)} {i : Nat} {x : V} (h : (optL hd)[i]? = some x) : ∃ o, hd[i]? = some o ∧ x = optV o := map_get h
theorem optV_eq (o : Option Nat) (r : Nat) : scal (optV o) (V.int (r : Nat)) = true ∧ decide (optV o = V.int (r : Nat)) = decide (o = some r) := by
  cases o with
  | none => exact ⟨rfl, rfl⟩
  | some n =>
    refine ⟨rfl, ?_⟩
    show decide (V.int (n : Nat) = V.int (r : Nat)) = _
    rw [dec_int]
    by_cases h : n = r
    · subst h; simp
    · have h2 : ¬ ((n : Int) = (r : Int)) := by omega
      simp [h, h2]
def spThose (a : Ad) : Sp := fun vs H Q _ => ∃ (l : Addr) (hd : List (Option Nat)) (r : Nat), vs = [.ref l, .int (r : Nat)] ∧ H l = some (.lst (optL hd)) ∧ hd.length ≤ 1000 ∧
  ∀ t H', Gr a H H' → H' t = some (.tup (natV (inHd hd r))) → Q (.ref t) H'
/-- xs[i], in range -/
def rGetL : V → V → Hp → VK → Prop := fun o i H Q => ∃ p xs k v, o = .ref p ∧ i = .int ((k : Nat) : Int) ∧ H p = some (.lst xs) ∧ xs[k]? = some v ∧ Q v H
theorem get_listN {X : Cx} : PGet X rGetL := by
  intro pins s σ H o i ov iv Q I ro ri h
  obtain ⟨p, xs, k, v, rfl, rfl, hp, hv, q⟩ := h
  cases ro
  obtain ⟨t, rfl⟩ := ri
  obtain ⟨its, n, r, ho, hz⟩ := I.lst hp
  obtain ⟨u, hu, ru⟩ := r.get hv
  have hk : k < xs.length := (List.getElem?_eq_some_iff.mp hv).1
  have hn := line63
  exact wpAny_getItem_list (items := its.toArray) ⟨_, ho, rfl, n, rfl⟩ (by omega) (by omega) (by simpa using hu) ⟨v, H, I, ru, q⟩
section
variable {P : Program} {w : World} {K : PySem.W.Frag} {mg : Str → Option Value} {base : Heap} {a : Ad}
theorem sc_g_those_in : FnScope ["match", "room", "asker", "one"] ["match", "room"] (defScope s_g_those_in) := ⟨rfl, rfl, rfl, by decide +kernel, rfl, by decide +kernel, by decide +kernel⟩
theorem ok_those_in (T : Txt K mg base a) : FnOk P w K mg base CX0 1 a.f_g_those_in a.d_g_those_in ["match", "room"] (spThose a) := by
  refine T.F_g_those_in.ok sc_g_those_in (fun vs H Q E h => ?_) (fun cdv A outer s H vs Q E hr h => ?_)
  · obtain ⟨l, hd, r, rfl, _⟩ := h
    rfl
  · obtain ⟨l, hd, r, rfl, hl, hz, k⟩ := h
    have nd := sc_g_those_in.nd
    refine ⟨_, pss_one (ps_ret (pe_callTy (call_tupleS a) (by rfl) T.z_tuple bt_tuple (pa_cons
        (pe_lc (own := [("asker", 2), ("one", 3)]) (g := gTup K 2 (gCons (gName 2) (gCons (gName 3) gNil))) (te := tVar 2) rfl nd (pi_enum (by rfl) T.z_enumerate (pa_cons (pv 0) pa_nil)) (blkOk_by (N := ["match", "room", "asker", "one"]) (sc := defScope s_g_those_in) (by decide +kernel))
          (fun _ _ _ _ _ => pg_tup rfl (pgs_cons (pg_name (i := 2) nd rfl (Or.inl rfl)) (pgs_cons (pg_name (i := 3) nd rfl (Or.inl rfl)) pgs_nil))) (fun _ _ _ _ _ => pts_one (pt_cmpR op_eq (pv 3) (pv 1) (nomark _)))
          (fun _ _ _ _ _ => pv 2)) pa_nil))), ?_⟩
    refine ⟨_, rfl, l, _, rfl, SqL.of hl, fun D nD => ?_⟩
    refine lc_it (walk_enum (K := K) (a := l) (xs := optL hd)) (fun i H' => Gr a H H' ∧ H' D = some (.lst (natV ((List.range i).filter fun i => decide (hd.getD i none = some r)))))
      ⟨Gx.new nD, upd_same⟩ (fun i H' _ ⟨g, _⟩ => SqL.of (Gr.lst g hl)) ?_ ?_
    · rintro i x H' H2 hi ⟨g, hD⟩ ⟨T', y1, y2, rfl, nT, rfl, e1, e2⟩
      cases e1
      obtain ⟨o, ho, rfl⟩ := optL_get e2
      rw [optL_len] at hi
      refine ⟨T', _, rfl, SqT.of upd_same, rfl, _, _, rfl, _, _, rfl, rfl, rfl, ?_⟩
      refine ⟨_, rfl, _, rfl, (optV_eq o r).1, _, rfl, ?_⟩
      rw [(optV_eq o r).2]
      have hD2 : upd H' T' (.tup [V.int (i : Nat), optV o]) D = _ := new_keep hD nT
      have hg : hd.getD i none = o := by rw [List.getD_eq_getElem?_getD, ho]; rfl
      have hg2 := g.trans (Gx.new (o := .tup [V.int (i : Nat), optV o]) nT)
      rw [List.range_succ, List.filter_append]
      by_cases h : o = some r
      · rw [decide_eq_true h]
        refine iteT ?_
        refine ⟨_, rfl, _, hD2, sz1000 (by rw [natV_len]; exact Nat.le_trans (List.length_filter_le _ _) (by rw [List.length_range]; omega)), Gx.app hg2 nD hD2 rfl, ?_⟩
        have e : [i].filter (fun i => decide (hd.getD i none = some r)) = [i] := List.filter_cons_of_pos (by rw [hg]; exact decide_eq_true h)
        rw [upd_same, natV_snoc, e]
      · rw [decide_eq_false h]
        refine iteF ⟨hg2, ?_⟩
        have e : [i].filter (fun i => decide (hd.getD i none = some r)) = [] := List.filter_cons_of_neg (by rw [hg, decide_eq_false h]; decide)
        rw [hD2, e, List.append_nil]
    · rintro H1 ⟨g, hD⟩
      rw [optL_len] at hD
      exact ⟨D, _, rfl, .inl hD, fun t H2 g2 ht => k t H2 (g.trans g2) ht⟩
end
end K6

/-! ## KAsk2 -/
set_option maxRecDepth 100000
set_option maxHeartbeats 4000000
/-! Asking.__init__, Asking.wants. -/
namespace K6
open PySem PySem.Spec PyProof.Rows L2
def af (m ln lh ls : Addr) : List (Str × V) := [("market", .ref m), ("next", .ref ln), ("held", .ref lh), ("steps", .ref ls)]
theorem af_market (m ln lh ls : Addr) : (af m ln lh ls).lookup ("market" : Str) = some (V.ref m) := lk1
theorem af_next (m ln lh ls : Addr) : (af m ln lh ls).lookup ("next" : Str) = some (V.ref ln) := lk2 (by decide +kernel) lk1
theorem af_held (m ln lh ls : Addr) : (af m ln lh ls).lookup ("held" : Str) = some (V.ref lh) := lk2 (by decide +kernel) (lk2 (by decide +kernel) lk1)
theorem af_steps (m ln lh ls : Addr) : (af m ln lh ls).lookup ("steps" : Str) = some (V.ref ls) := lk2 (by decide +kernel) (lk2 (by decide +kernel) (lk2 (by decide +kernel) lk1))
theorem af_no (m ln lh ls : Addr) {x : Str} (h1 : ¬ x = "market") (h2 : ¬ x = "next") (h3 : ¬ x = "held") (h4 : ¬ x = "steps") : (af m ln lh ls).lookup x = none := lk0 h1 (lk0 h2 (lk0 h3 (lk0 h4 lkn)))
/-- an Asking stands at k; H0: the heap before it -/
structure AskAt (a : Ad) (H0 H : Hp) (k m ln lh ls : Addr) (L O : List (List Nat)) (S : List Nat) (nx : List Nat) (hd : List (Option Nat)) : Prop where
  g : Gr a H0 H
  mt : MktAt a H0 m L O S
  wf : WF L O S
  n0 : H0 k = none
  n1 : H0 ln = none
  n2 : H0 lh = none
  n3 : H0 ls = none
  ins : ∃ dx, H k = some (.ins a.cA dx (af m ln lh ls))
  hn : H ln = some (.lst (natV nx))
  hh : H lh = some (.lst (optL hd))
  hs : ∃ st, H ls = some (.lst st) ∧ st.length ≤ nx.sum
  d1 : ln ≠ lh
  d2 : ln ≠ ls
  d3 : lh ≠ ls
  l1 : nx.length = L.length
  l2 : hd.length = L.length
def spAInit (a : Ad) : Sp := fun vs H Q _ => ∃ (H0 : Hp) (p dx m : Addr) (L O : List (List Nat)) (S : List Nat), vs = [.ref p, .ref m] ∧ H p = some (.ins a.cA dx []) ∧ H0 p = none ∧ Gr a H0 H ∧ MktAt a H0 m L O S ∧ WF L O S ∧
  ∀ H' ln lh ls, AskAt a H0 H' p m ln lh ls L O S (List.replicate L.length 0) (List.replicate L.length none) → Q .non H'
def wantsB (L : List (List Nat)) (nx : List Nat) (hd : List (Option Nat)) (c : Nat) : Bool := decide (hd.getD c none = none) && decide (nx.getD c 0 < (L.getD c []).length)
def spAWants (a : Ad) : Sp := fun vs H Q _ => ∃ (H0 : Hp) (k m ln lh ls : Addr) (L O : List (List Nat)) (S nx : List Nat) (hd : List (Option Nat)) (c : Nat), vs = [.ref k, .int (c : Nat)] ∧ AskAt a H0 H k m ln lh ls L O S nx hd ∧ c < L.length ∧ Q (.bl (wantsB L nx hd c)) H
theorem getD_of {α : Type} {l : List α} {i : Nat} {x d : α} (h : l[i]? = some x) : l.getD i d = x := by rw [List.getD_eq_getElem?_getD, h]; rfl
theorem get_lt {α : Type} {l : List α} {i : Nat} (h : i < l.length) : ∃ x, l[i]? = some x := ⟨l[i], List.getElem?_eq_getElem h⟩
theorem natV_at {o : List Nat} {i n : Nat} (h : o[i]? = some n) : (natV o)[i]? = some (V.int (n : Nat)) := by unfold natV; rw [List.getElem?_map, h]; rfl
theorem optL_at {o : List (Option Nat)} {i : Nat} {n : Option Nat} (h : o[i]? = some n) : (optL o)[i]? = some (optV n) := by unfold optL; rw [List.getElem?_map, h]; rfl
theorem ref_at {o : List Addr} {i : Nat} {n : Addr} (h : o[i]? = some n) : (o.map V.ref)[i]? = some (V.ref n) := by rw [List.getElem?_map, h]; rfl
section
variable {P : Program} {w : World} {K : PySem.W.Frag} {mg : Str → Option Value} {base : Heap} {a : Ad}
theorem sc_A_init : FnScope ["self", "market"] ["self", "market"] (defScope s_A_init) := ⟨rfl, rfl, rfl, by decide +kernel, rfl, by decide +kernel, by decide +kernel⟩
theorem ok_A_init (T : Txt K mg base a) : FnOk P w K mg base CX0 2 a.f_A_init a.d_A_init ["self", "market"] (spAInit a) := by
  have GS : FnOk P w K mg base CX0 1 a.f_M_size a.d_M_size ["self"] (spMSize a) := ok_M_size T
  refine T.F_A_init.ok sc_A_init (fun vs H Q E h => ?_) (fun cdv A outer s H vs Q E hr h => ?_)
  · obtain ⟨H0, p, dx, m, L, O, S, rfl, _⟩ := h
    rfl
  · obtain ⟨H0, p, dx, m, L, O, S, rfl, hp, np, g0, M, wf, k⟩ := h
    refine ⟨_, pss_cons (ps_fld (pv 0) (pv 1) rfl)
      (pss_cons (ps_fld (pv 0) (pe_op op_rep (pe_lst (pa_cons pe_int pa_nil)) (pe_meth0 (pv 1) T.cl_M T.m_M_size GS hr T.b_M_size .nil pass0)) rfl)
      (pss_cons (ps_fld (pv 0) (pe_op op_rep (pe_lst (pa_cons pe_non pa_nil)) (pe_meth0 (pv 1) T.cl_M T.m_M_size GS hr T.b_M_size .nil pass0)) rfl)
      (pss_one (ps_fld (pv 0) (pe_lst pa_nil) rfl)))), ?_⟩
    dsimp only [tNext, tSeq, sFld]
    refine ⟨_, rfl, _, rfl, p, a.cA, dx, _, rfl, hp, T.cl_A, T.n_A_market, (by show 0 < 1000; decide), ?_⟩
    generalize hH1 : upd H p (HO.ins a.cA dx (putF "market" (V.ref m) [])) = H1
    have g1 : Gx a [p] H H1 := by rw [← hH1]; exact Gx.set hp rfl (by simp)
    have hp1 : H1 p = some (.ins a.cA dx [("market", V.ref m)]) := by rw [← hH1]; exact upd_same
    have np' : ∀ b, b ∈ [p] → H0 b = none := fun b hb => by rw [List.mem_singleton.mp hb]; exact np
    have g01 : Gr a H0 H1 := Gx.over g0 g1 np'
    have hL : (-(2 ^ 63) : Int) ≤ (L.length : Int) ∧ ((L.length : Int) < 2 ^ 63) := by have := wf.la; omega
    have hL2 : 1 * ((L.length : Int)).toNat ≤ sizeLine := by
      have := wf.la
      have : sizeLine = 16777216 := sizeLine_eq
      rw [Int.toNat_natCast]; omega
    have rep : ∀ (v : V), (List.replicate ((L.length : Int)).toNat [v]).flatten = List.replicate L.length v := fun v => by
      rw [Int.toNat_natCast]
      induction L.length with
      | zero => rfl
      | succ n ih => rw [List.replicate_succ, List.flatten_cons, ih, List.replicate_succ]; rfl
    -- self.next
    refine ⟨by show 1 ≤ sizeLine; decide, fun D1 nD1 => ?_⟩
    have g2 : Gr a H1 (upd H1 D1 (.lst [V.int 0])) := Gx.new nD1
    obtain ⟨dm, la, lr, ts, as, rs, h1, h2, h3, h4, h5, h6⟩ := M.gr (g01.trans g2)
    refine ⟨_, rfl, m, dm, _, rfl, h1, mf_no _ _ _ (by decide +kernel) (by decide +kernel) (by decide +kernel), m, L, O, S, rfl, M.gr (g01.trans g2), ?_⟩
    refine ⟨D1, _, [V.int 0], rfl, rfl, upd_same, hL.1, hL.2, hL2, fun ln nln => ?_⟩
    rw [rep]
    have g3 := g2.trans (Gx.new (o := .lst (List.replicate L.length (V.int 0))) nln)
    generalize hH2 : upd (upd H1 D1 (.lst [V.int 0])) ln (.lst (List.replicate L.length (V.int 0))) = H2 at g3
    have hln : H2 ln = some (.lst (List.replicate L.length (V.int 0))) := by rw [← hH2]; exact upd_same
    have nln1 : H1 ln = none := g2.free _ nln
    have hp2 := Gr.ins g3 hp1
    refine ⟨_, rfl, p, a.cA, dx, _, rfl, hp2, T.cl_A, T.n_A_next, (by show 1 < 1000; decide), ?_⟩
    generalize hH3 : upd H2 p (HO.ins a.cA dx (putF "next" (V.ref ln) [("market", V.ref m)])) = H3
    have g4 : Gx a [p] H2 H3 := by rw [← hH3]; exact Gx.set hp2 rfl (by simp)
    have hp3 : H3 p = some (.ins a.cA dx [("market", V.ref m), ("next", V.ref ln)]) := by rw [← hH3, upd_same, pf2 (by decide +kernel) pf0]
    have g03 : Gr a H0 H3 := Gx.over (g01.trans g3) g4 np'
    have np2 : ∀ b o, H2 b = some (.lst o) → b ∉ [p] := fun b o e z => by rw [List.mem_singleton.mp z, hp2] at e; cases e
    have hln3 := g4.lst hln (np2 _ _ hln)
    -- self.held
    refine ⟨by show 1 ≤ sizeLine; decide, fun D2 nD2 => ?_⟩
    have g5 : Gr a H3 (upd H3 D2 (.lst [V.non])) := Gx.new nD2
    obtain ⟨dm', la', lr', ts', as', rs', h1', _⟩ := M.gr (g03.trans g5)
    refine ⟨_, rfl, m, dm', _, rfl, h1', mf_no _ _ _ (by decide +kernel) (by decide +kernel) (by decide +kernel), m, L, O, S, rfl, M.gr (g03.trans g5), ?_⟩
    refine ⟨D2, _, [V.non], rfl, rfl, upd_same, hL.1, hL.2, hL2, fun lh nlh => ?_⟩
    rw [rep]
    have g6 := g5.trans (Gx.new (o := .lst (List.replicate L.length V.non)) nlh)
    generalize hH4 : upd (upd H3 D2 (.lst [V.non])) lh (.lst (List.replicate L.length V.non)) = H4 at g6
    have hlh : H4 lh = some (.lst (List.replicate L.length V.non)) := by rw [← hH4]; exact upd_same
    have nlh3 : H3 lh = none := g5.free _ nlh
    have hp4 := Gr.ins g6 hp3
    refine ⟨_, rfl, p, a.cA, dx, _, rfl, hp4, T.cl_A, T.n_A_held, (by show 2 < 1000; decide), ?_⟩
    generalize hH5 : upd H4 p (HO.ins a.cA dx (putF "held" (V.ref lh) [("market", V.ref m), ("next", V.ref ln)])) = H5
    have g7 : Gx a [p] H4 H5 := by rw [← hH5]; exact Gx.set hp4 rfl (by simp)
    have hp5 : H5 p = some (.ins a.cA dx [("market", V.ref m), ("next", V.ref ln), ("held", V.ref lh)]) := by rw [← hH5, upd_same, pf2 (by decide +kernel) (pf2 (by decide +kernel) pf0)]
    have g05 : Gr a H0 H5 := Gx.over (g03.trans g6) g7 np'
    have np4 : ∀ b o, H4 b = some (.lst o) → b ∉ [p] := fun b o e z => by rw [List.mem_singleton.mp z, hp4] at e; cases e
    have hln5 := g7.lst (Gr.lst g6 hln3) (np4 _ _ (Gr.lst g6 hln3))
    have hlh5 := g7.lst hlh (np4 _ _ hlh)
    -- self.steps
    refine ⟨Nat.zero_le _, fun ls nls => ?_⟩
    have g8 : Gr a H5 (upd H5 ls (.lst [])) := Gx.new nls
    have hp6 := Gr.ins g8 hp5
    refine ⟨_, rfl, p, a.cA, dx, _, rfl, hp6, T.cl_A, T.n_A_steps, (by show 3 < 1000; decide), ?_⟩
    generalize hH7 : upd (upd H5 ls (.lst [])) p (HO.ins a.cA dx (putF "steps" (V.ref ls) [("market", V.ref m), ("next", V.ref ln), ("held", V.ref lh)])) = H7
    have g9 : Gx a [p] (upd H5 ls (.lst [])) H7 := by rw [← hH7]; exact Gx.set hp6 rfl (by simp)
    have np6 : ∀ b o, upd H5 ls (.lst []) b = some (.lst o) → b ∉ [p] := fun b o e z => by rw [List.mem_singleton.mp z, hp6] at e; cases e
    have hln7 := g9.lst (Gr.lst g8 hln5) (np6 _ _ (Gr.lst g8 hln5))
    have hlh7 := g9.lst (Gr.lst g8 hlh5) (np6 _ _ (Gr.lst g8 hlh5))
    have hls7 := g9.lst (upd_same : upd H5 ls (.lst []) ls = some (.lst [])) (np6 _ _ upd_same)
    refine k H7 ln lh ls ⟨Gx.over (g05.trans g8) g9 np', M, wf, np, g01.free _ nln1, g03.free _ nlh3, g05.free _ nls, ⟨dx, ?_⟩, ?_, ?_, ⟨[], hls7, Nat.zero_le _⟩, ne_of_none hln3 nlh3, ne_of_none hln5 nls, ne_of_none hlh5 nls, List.length_replicate .., List.length_replicate ..⟩
    · rw [← hH7, upd_same, pf2 (by decide +kernel) (pf2 (by decide +kernel) (pf2 (by decide +kernel) pf0))]; rfl
    · rw [hln7]; unfold natV; rw [List.map_replicate]; rfl
    · rw [hlh7]; unfold optL; rw [List.map_replicate]; rfl
theorem sc_A_wants : FnScope ["self", "asker"] ["self", "asker"] (defScope s_A_wants) := ⟨rfl, rfl, rfl, by decide +kernel, rfl, by decide +kernel, by decide +kernel⟩
theorem ok_A_wants (T : Txt K mg base a) : FnOk P w K mg base CX0 1 a.f_A_wants a.d_A_wants ["self", "asker"] (spAWants a) := by
  refine T.F_A_wants.ok sc_A_wants (fun vs H Q E h => ?_) (fun cdv A outer s H vs Q E hr h => ?_)
  · obtain ⟨H0, k, m, ln, lh, ls, L, O, S, nx, hd, c, rfl, _⟩ := h
    rfl
  · obtain ⟨H0, k, m, ln, lh, ls, L, O, S, nx, hd, c, rfl, M, hc, kk⟩ := h
    obtain ⟨dx, hk⟩ := M.ins
    obtain ⟨dm, la, lr, ts, as, rs, h1, h2, h3, h4, h5, h6⟩ := M.mt.gr M.g
    refine ⟨_, pss_one (ps_ret (pe_and (pe_cmpR op_isN (pe_ix ix_list (pe_fld (pv 0) rfl) (pv 1) (fun _ _ => rfl)) pe_non (nomark _))
      (pe_one (pe_cmpR op_lt (pe_ix ix_list (pe_fld (pv 0) rfl) (pv 1) (fun _ _ => rfl)) (pe_callB call_lenS (by rfl) T.z_len bt_len (pa_cons (pe_fld (pe_ix ix_list (pe_fld (pe_fld (pv 0) rfl) rfl) (pv 1) (fun _ _ => rfl)) rfl) pa_nil)) (nomark _))))), ?_⟩
    obtain ⟨o, ho⟩ := get_lt (l := hd) (i := c) (by rw [M.l2]; exact hc)
    obtain ⟨n, hn⟩ := get_lt (l := nx) (i := c) (by rw [M.l1]; exact hc)
    obtain ⟨l, hl⟩ := get_lt (l := L) (i := c) hc
    obtain ⟨wp, hwp, dw, tw, dd, w1, w2, w3⟩ := paired_get h5 hl
    unfold wantsB at kk
    rw [getD_of ho, getD_of hn, getD_of hl] at kk
    refine ⟨_, rfl, k, a.cA, dx, _, _, rfl, hk, T.cl_A, T.n_A_held, af_held _ _ _ _, _, rfl, lh, _, _, _, rfl, rfl, SqL.of M.hh, atI_nat (optL_at ho), rfl, _, rfl, ?_⟩
    cases o with
    | some q =>
      refine iteF ?_
      exact kk
    | none =>
      refine iteT ?_
      refine ⟨_, rfl, k, a.cA, dx, _, _, rfl, hk, T.cl_A, T.n_A_next, af_next _ _ _ _, _, rfl, ln, _, _, _, rfl, rfl, SqL.of M.hn, atI_nat (natV_at hn), ?_⟩
      refine ⟨_, rfl, k, a.cA, dx, _, _, rfl, hk, T.cl_A, T.n_A_market, af_market _ _ _ _, m, a.cM, dm, _, _, rfl, h1, T.cl_M, T.n_M_askers, mf_askers _ _ _, _, rfl, la, _, _, _, rfl, rfl, SqL.of h2, atI_nat (ref_at hwp), ?_⟩
      refine ⟨wp, a.cW, dw, _, _, rfl, w1, T.cl_W, T.n_W_order, wf_order _ _, tw, _, rfl, .inr (SqT.of w2), _, _, rfl, rfl, ?_⟩
      have e : decide (((n : Nat) : Int) < ((natV l).length : Int)) = decide (n < l.length) := by
        rw [natV_len]
        by_cases h : n < l.length
        · rw [decide_eq_true h]; exact decide_eq_true (by omega)
        · rw [decide_eq_false h]; exact decide_eq_false (by omega)
      show Q (V.bl (decide (((n : Nat) : Int) < ((natV l).length : Int)))) H
      rw [e]
      exact kk
end
end K6

/-! ## KRaw -/
set_option maxRecDepth 100000
set_option maxHeartbeats 4000000
/-! Wish.rank and Wish.better, walked where a generator's element calls them: nothing but new things. -/
namespace K6
open PySem PySem.Spec PyProof.Rows L2
/-- the abstract heap is held, the base is kept -/
structure Rw (P : Program) (w : World) (base : Heap) (H : Hp) (h : Heap) : Prop where
  bk : ∀ b o, base.get? b = some o → h.get? b = some o
  hok : HOk P w H h
section
variable {P : Program} {w : World} {K : PySem.W.Frag} {mg : Str → Option Value} {base : Heap} {a : Ad} {H : Hp} {h h' : Heap} {A : Around} {s : Shared} {E : Value → Shared → Prop}
theorem Rw.keeps (R : Rw P w base H h) (k : ∀ b o, h.get? b = some o → h'.get? b = some o) : Rw P w base H h' := ⟨fun b o e => k b o (R.bk b o e), R.hok.kept k⟩
theorem Rw.kp {s s' : Shared} (R : Rw P w base H s.heap) (k : Keeps s s') : Rw P w base H s'.heap := by
  obtain ⟨h1, t, rfl, e⟩ := k
  exact R.keeps e
theorem kp_ns {s s' : Shared} {L : Addr} {m : Str → Option Value} (n : s.heap.Ns L m) (k : Keeps s s') : s'.heap.Ns L m := by
  obtain ⟨h1, t, rfl, e⟩ := k
  exact n.keeps e
/-- the heap as it is but at the table -/
theorem Rw.wake {X : Cx} {pins : List (Addr × Obj)} {σ : L2.St} {T : Addr} {s2 : Shared} (I : L2.Inv X pins σ H s) (hT : GxR.TabG H T) (k : ∀ b o, b ≠ T → s.heap.get? b = some o → s2.heap.get? b = some o) :
    Rw X.prog X.w X.base (fun b => if b = T then none else H b) s2.heap := by
  obtain ⟨ps, hP, _⟩ := id hT
  have nP : ∀ b u, H b = some u → (∀ q, u ≠ .tbl q) → b ≠ T := fun b u e q z => by
    rw [z, hP] at e
    exact q ps (Option.some.inj e).symm
  refine ⟨fun b o e => k b o (ne_tab hT (I.bs b o e).2) (I.bk b o e), fun b u e => ?_⟩
  have hb : b ≠ T := fun z => by
    have e : (if b = T then none else H b) = some u := e
    rw [if_pos z] at e; cases e
  have e' : H b = some u := by
    have e : (if b = T then none else H b) = some u := e
    rwa [if_neg hb] at e
  refine (I.hok b u e').stay (fun d v hd q => k d v ?_ q) (fun d q => ?_) fun d xs q => ?_
  · rcases hd with z | z
    · rw [z]; exact hb
    · exact nP d _ z (fun q z => by cases z)
  · show (if d = T then none else H d) = _
    rw [if_neg (nP d _ q (fun q z => by cases z))]; exact q
  · show (if d = T then none else H d) = _
    rw [if_neg (nP d _ q (fun q z => by cases z))]; exact q
/-- a def is called: its frame is laid, its body runs -/
theorem raw_run {x qual : Str} {st : Stmt} {f : Addr} {fd : FuncData} {N ps : List Str} {us : List Value} {R : Result → Shared → Prop} (M : Mod K mg base) (F : Fun K x qual st f fd) (S : FnScope N ps (defScope st)) (b : Binds K fd ps [])
    (bk : ∀ b o, base.get? b = some o → s.heap.get? b = some o) (hd : A.depth < recursionLimit) (hl : us.length = ps.length)
    (hbody : ∀ (cdv : Value) (s1 : Shared) (cs : List (Str × Addr)), InCallC s s.heap.objs.size (bindL (envOfC qual (defScope st) s.heap.objs.size f cdv).kindOf (ps.zip us) fun _ => none) cs (bindC (envOfC qual (defScope st) s.heap.objs.size f cdv).kindOf (ps.zip us) fun _ => none) s1 →
      wpAny (model P w) (A.deeper (envOfC qual (defScope st) s.heap.objs.size f cdv)) (execs (defBody st) (envOfC qual (defScope st) s.heap.objs.size f cdv)) (fun fl s' => R (.ok (.ret (match fl with | .ret v => v | _ => .none))) s') (fun _ _ => False) s1) :
    codeAny (model P w) A (.call (.ref f) ⟨us, []⟩) R s := by
  obtain ⟨oc, od, kV, doc, pm, an, cdv, ct, osl, rfl, lk, hcd⟩ := F.ex
  have KX : K.In s.heap := M.kin.keeps bk
  have lim : s.heap.NoLimit := M.nolimit.keeps bk
  have hb := b s us KX (by rw [List.append_nil]; exact hl)
  rw [List.append_nil] at hb
  have hkind : ∀ y ∈ ps.zip us, (defScope st).names.lookup y.1 = some .local ∨ ((defScope st).names.lookup y.1 = some .cell ∧ ((cellsFrom (s.heap.objs.size + 1) (defScope st).names []).lookup y.1).isSome = true) := fun ⟨n, v⟩ hy => by
    rcases S.par n (List.of_mem_zip hy).1 with q | q
    · exact .inl q
    · exact .inr ⟨q, PySem.W.cellsFrom_some _ _ _ (.inl q)⟩
  refine codeAny_call_function hd (KX _ _ lk) rfl S.co S.gen rfl (PySem.W.codeRec_of KX hcd) (hb _ _ _ _ ?_)
  refine wpAny_newFunctionEnv_cells S.kind hkind fun env he s1 x => ?_
  subst he
  refine ⟨lim.keeps x.toInCall.keep, codeAny_func ?_⟩
  exact wpAny_mono (hbody cdv s1 _ x) (fun _ _ q => q) fun _ _ q => False.elim q
/-- o.f -/
theorem raw_fld {p C dx : Addr} {fs : List (Str × V)} {f : Str} {v : V} {b : Bool} {Q : Value → Shared → Prop} (M : Mod K mg base) (W : Rw P w base H s.heap) (e : H p = some (.ins C dx fs)) (c : Cls K C) (n : NoAttr K C f) (l : fs.lookup f = some v)
    (h : ∀ u s', RelV v u → Keeps s s' → Q u s') : wpAny (model P w) A (getAttr (.ref p) f b) Q E s := by
  obtain ⟨mA, O, r, _, _, _⟩ := ins_get W.hok e
  obtain ⟨u, hu, ru⟩ := RelO.some_of (v := v) (o := mA f) (by rw [← l]; exact r f)
  exact get_map (M.kin.keeps W.bk) O (c.get f) c.hd n hu (handed_of ru) (h u _ ru (keeps_tok _ _))
/-- o.m, to be called -/
theorem raw_mth {p C dx g : Addr} {fs : List (Str × V)} {m : Str} {pl : Sem Bool} {Q : Value × List Value → Shared → Prop} (M : Mod K mg base) (W : Rw P w base H s.heap) (e : H p = some (.ins C dx fs)) (c : Cls K C) (k : Meth K C m g) (l : fs.lookup m = none)
    (h : Q (.ref g, [.ref p]) s) : wpAny (model P w) A (getMethod (.ref p) m pl) Q E s := by
  obtain ⟨mA, O, r, _, _, _⟩ := ins_get W.hok e
  have hn : mA m = none := RelO.none_of (by rw [← l]; exact r m)
  exact get_meth (M.kin.keeps W.bk) O (c.get m) k.at_ k.fn hn h
/-- self.rank(one) -/
theorem raw_rank {p : Addr} {o : List Nat} {z : Option Nat} {u : Value} {R : Result → Shared → Prop} (T : Txt K mg base a) (M : Mod K mg base) (W : Rw P w base H s.heap) (wi : WishAt a H p o) (ru : RelV (optV z) u)
    (hd : A.depth < recursionLimit) (hR : ∀ u' s', RelV (rkV o z) u' → Keeps s s' → R (.ok (.ret u')) s') :
    codeAny (model P w) A (.call (.ref a.f_W_rank) ⟨[.ref p, u], []⟩) R s := by
  obtain ⟨dx, t, d, h1, h2, h3⟩ := wi
  refine raw_run M T.F_W_rank sc_W_rank T.b_W_rank W.bk hd rfl fun cdv s1 cs x => ?_
  have kx : Keeps s s1 := by
    obtain ⟨h', tk, e, k⟩ := x.done
    exact ⟨h', tk, e, k⟩
  have W1 : Rw P w base H s1.heap := W.kp kx
  have ns := x.toInCall.ns
  refine wpAny_execs_cons (wpAny_Return_some (wpAny_IfExp (wpAny_isTrue_Compare1 (wpAny_Name (wpAny_loadName_local rfl (by rfl) ns (by rfl) (Constant_none (is_none_gen (wpAny_truthy_bool ?_))))) (nomark _))))
  cases z with
  | none =>
    obtain rfl : u = Value.none := ru
    refine iteT ?_
    -- len(self.order)
    obtain ⟨mb, b1, b2⟩ := M.blt
    refine wpAny_Call_Name_kw (Calls.Name_function_global rfl (by rfl) (Calls.loadGlobal_builtin (M.glob.keeps W1.bk) T.z_len (b1.keeps W1.bk) ((b2 "len" (by decide)).trans bt_len) ?_))
    refine PyProof.Rows.callWith_builtin1 ?_ rfl rfl
    refine Calls.spliced_cons (attr_of rfl (wpAny_Name (wpAny_loadName_local rfl (by rfl) ns (by rfl) ?_)))
    refine raw_fld M W1 h1 T.cl_W T.n_W_order (wf_order _ _) fun u1 s2 r1 k2 => ?_
    cases r1
    refine Calls.spliced_nil ?_
    obtain ⟨hz, its, rv, pl⟩ := (W1.kp k2).hok t _ h2
    have hlen := rv.length
    have hn := line63
    rw [natV_len] at hlen hz
    refine len_tuple pl (by simp only [List.size_toArray]; omega) ?_
    refine hR _ _ ⟨_, by rw [List.size_toArray, ← hlen]⟩ (Keeps.trans kx (Keeps.trans k2 (keeps_tok _ _)))
  | some n =>
    obtain ⟨tu, rfl⟩ := ru
    refine iteF ?_
    -- self.ranks.get(one)
    refine wpAny_Call_method rfl rfl rfl PySem.F.plainAttrs_dict PySem.F.slot_dict_get PySem.F.type_dict_get (attr_of rfl (wpAny_Name (wpAny_loadName_local rfl (by rfl) ns (by rfl) ?_)))
    refine raw_fld M W1 h1 T.cl_W T.n_W_ranks (wf_ranks _ _) fun u1 s2 r1 k2 => ?_
    cases r1
    obtain ⟨hz, hds, vs, rel, dd⟩ := dk_rd (W1.kp k2).hok (.inl h3)
    refine ⟨dd.typeIs, fun b e => ?_, ?_⟩
    · cases e
      obtain ⟨o, _, _, e1, x1, _⟩ := dd
      exact ⟨o, e1, x1.2.1⟩
    refine Calls.callWith_builtin rfl (Calls.evalArgs_plain (Calls.spliced_cons (wpAny_Name (wpAny_loadName_local rfl (by rfl) (kp_ns ns k2) (by rfl) (Calls.spliced_nil ?_)))))
    refine call_meetsIn PySem.F.slot_dict_get dd.typeIs PySem.F.entry_dict_get (PySem.F.args_dict_get_2 _ _) (meets_dict_get (k := (Sum.inl (n : Int) : Key)) (mixKind P w) d (kV_is ⟨tu, rfl⟩) hds) ⟨_, dd.mapOf, ?_⟩
    refine hR _ _ ?_ (Keeps.trans kx (Keeps.trans k2 (keeps_tok _ _)))
    have e : (valV (rkF 0 o) (Sum.inl (n : Int) : Key)).getD V.non = rkV o (some n) := by
      rw [rkF_val]
      show _ = if n ∈ o then V.int (o.idxOf n : Nat) else V.non
      by_cases h : n ∈ o
      · rw [if_pos h, if_pos h]; simp
      · rw [if_neg h, if_neg h]; rfl
    rw [← e]
    exact (rel.val _).getD rfl
/-- x.rank(y) -/
theorem raw_rk {env : Env} {m : Str → Option Value} {x y : Str} {px py apos pos : Pos} {p : Addr} {o : List Nat} {z : Option Nat} {u : Value} {pl : Sem Bool} {Q : Value → Shared → Prop} (T : Txt K mg base a) (M : Mod K mg base) (W : Rw P w base H s.heap) (wi : WishAt a H p o) (ru : RelV (optV z) u)
    (hd : A.depth < recursionLimit) (hk : env.scope.kind = .function) (l1 : env.kindOf x = some .local) (l2 : env.kindOf y = some .local) (ns : s.heap.Ns env.locals m) (hx : m x = some (.ref p)) (hy : m y = some u)
    (h : ∀ u' s', RelV (rkV o z) u' → Keeps s s' → Q u' s')
    (d1 : (x == ("__debug__" : Str)) = false := by decide) (d2 : (y == ("__debug__" : Str)) = false := by decide)
    (hst : starEach [.Name y py] env = (false, eval (.Name y py) env) :: starEach [] env := by rfl)
    (ht : eval (.Call (.Attribute (.Name x px) "rank" apos) [.Name y py] [] pos) env = (do
      let ov ← eval (.Name x px) env
      standAt apos.atName
      let (f, first) ← holding [ov] (getMethod ov "rank" pl)
      callWith pos f first (backTo pos (starEach [.Name y py] env)) (backToKw pos (keywordEach [] env))) := by rfl) :
    wpAny (model P w) A (eval (.Call (.Attribute (.Name x px) "rank" apos) [.Name y py] [] pos) env) Q E s := by
  refine PySem.W.methodCall_KW (pl := pl) (wpAny_Name (wpAny_loadName_local hk l1 ns hx ?_) d1) ht
  obtain ⟨dx, t, d, h1, h2, h3⟩ := id wi
  refine raw_mth M W h1 T.cl_W T.m_W_rank (wf_no _ _ (by decide +kernel) (by decide +kernel)) ?_
  refine PySem.W.callWith_K (first := [.ref p]) (h₀ := base) M.kin T.m_W_rank.kp ?_ hst (by rfl)
  rw [hst]
  refine Calls.spliced_cons (wpAny_Name (wpAny_loadName_local hk l2 ns hy (Calls.spliced_nil ⟨M.kin.keeps W.bk, ?_⟩)) d2)
  exact wpAny_call (raw_rank T M W wi ru hd fun u' s' r k => h u' s' r k)
/-- x, y = a, b: plain names -/
theorem raw_par {env : Env} {x y : Str} {e1 e2 : Expr} {px py pt pos : Pos} {kt k2 pt2} {Q : Flow → Shared → Prop} (hh : A.handled = none) (hx : env.kindOf x = some .local) (hy : env.kindOf y = some .local) (hk : env.scope.kind = .function)
    (hw : swappedStores [.Tuple [.Name x px, .Name y py] kt pt] (.Tuple [e1, e2] k2 pt2) env = pure (some [x, y])) (hs : swapsWithSole [.Tuple [.Name x px, .Name y py] kt pt] (.Tuple [e1, e2] k2 pt2) pos.line env = pure false)
    (hst : starEach [e1, e2] env = [(false, eval e1 env), (false, eval e2 env)])
    (h : wpAny (model P w) A (eval e1 env) (fun u1 s1 => wpAny (model P w) A (eval e2 env) (fun u2 s2 => ∃ m, s2.heap.Ns env.locals m ∧ ∀ h' t, h'.Ns env.locals (fun n => if n = x then some u1 else if n = y then some u2 else m n) →
      (∀ b o, b ≠ env.locals → s2.heap.get? b = some o → h'.get? b = some o) → Q .next { s2 with heap := h', toks := t }) E s1) E s) :
    wpAny (model P w) A (exec (.Assign [.Tuple [.Name x px, .Name y py] kt pt] (.Tuple [e1, e2] k2 pt2) pos) env) Q E s := by
  rw [exec_Assign_arm]
  refine wpAny_bind (wpAny_standAt ?_)
  rw [hs]
  refine wpAny_bind (wpAny_pure ?_)
  rw [if_neg (by decide)]
  refine wpAny_bind (Tuple_ ?_)
  rw [hst]
  refine Calls.spliced_cons (wpAny_mono h (fun u1 s1 h1 => Calls.spliced_cons (wpAny_mono h1 (fun u2 s2 h2 => Calls.spliced_nil ?_) fun _ _ z => z)) fun _ _ z => z)
  obtain ⟨m, ns, q⟩ := h2
  refine wpAny_newObj_type ?_ (by show 2 ≤ sizeLine; decide)
  rw [hw]
  refine wpAny_bind (wpAny_pure ?_)
  show wpAny (model P w) A (do rule "assign.swapped-stores"; let items ← unpackItems (.ref s2.heap.objs.size) 2 none; assignInOrder [fun v => bindName env y v, fun v => bindName env x v] items.reverse; pure Flow.next) _ _ _
  refine wpAny_bind (wpAny_rule (wpAny_bind (unpackItems_tuple (items := #[u1, u2]) hh (IsTup.new s2.heap _) fun h' hx' => ?_)))
  have k0 : ∀ b o, s2.heap.get? b = some o → h'.get? b = some o := fun b o e => hx' b o (Nat.ne_of_lt (Nat.lt_of_lt_of_le (Heap.lt_size e) (by simp [Heap.push]))) (Heap.get?_push_of_some _ e)
  have hcls : (env.scope.kind == .class || (env.scope.kind == .module && env.locals != env.globals)) = false := by rw [hk]; rfl
  show wpAny _ _ (assignInOrder [fun v => bindName env y v, fun v => bindName env x v] [u2, u1] >>= fun _ => pure Flow.next) _ _ _
  refine wpAny_bind (assignInOrder_cons (wpAny_bindName (wpAny_storeName_local hy (ns.keeps k0) (fun ha na sa => ?_) hcls)))
  refine assignInOrder_cons (wpAny_bindName (wpAny_storeName_local hx na (fun hb nb sb => assignInOrder_nil (wpAny_pure ?_)) hcls))
  exact q hb _ nb fun b o hne e => (sb.2 b hne).trans ((sa.2 b hne).trans (k0 b o e))
theorem rkV_cs (o : List Nat) (z : Option Nat) : rkV o z = V.non ∨ ∃ i : Nat, rkV o z = V.int i := by
  cases z with
  | none => exact .inr ⟨_, rfl⟩
  | some n =>
    show (if n ∈ o then _ else _) = _ ∨ ∃ i : Nat, (if n ∈ o then _ else _) = _
    by_cases h : n ∈ o
    · rw [if_pos h]; exact .inr ⟨_, rfl⟩
    · rw [if_neg h]; exact .inl rfl
/-- self.better(one, other) -/
theorem raw_better {p : Addr} {o : List Nat} {x y : Option Nat} {u v : Value} {R : Result → Shared → Prop} (T : Txt K mg base a) (M : Mod K mg base) (W : Rw P w base H s.heap) (wi : WishAt a H p o) (ru : RelV (optV x) u) (rv : RelV (optV y) v)
    (hh : A.handled = none) (hd : A.depth + 1 < recursionLimit) (hR : ∀ s', Keeps s s' → R (.ok (.ret (.bool (betterB o x y)))) s') :
    codeAny (model P w) A (.call (.ref a.f_W_better) ⟨[.ref p, u, v], []⟩) R s := by
  refine raw_run M T.F_W_better sc_W_better T.b_W_better W.bk (by omega) rfl fun cdv s1 cs xc => ?_
  have kx : Keeps s s1 := by
    obtain ⟨h', tk, e, k⟩ := xc.done
    exact ⟨h', tk, e, k⟩
  have W1 : Rw P w base H s1.heap := W.kp kx
  have ns := xc.toInCall.ns
  have fr := xc.toInCall.fresh
  refine wpAny_execs_cons (raw_par hh rfl rfl rfl (by rfl) (by rfl) (by rfl) ?_)
  refine raw_rk T M W1 wi ru hd rfl (by rfl) (by rfl) ns (by rfl) (by rfl) fun u1 s2 r1 k1 => ?_
  refine raw_rk T M (W1.kp k1) wi rv hd rfl (by rfl) (by rfl) (kp_ns ns k1) (by rfl) (by rfl) fun u2 s3 r2 k2 => ?_
  refine ⟨_, kp_ns (kp_ns ns k1) k2, fun h' t n4 k4 => ?_⟩
  have k03 : Keeps s s3 := Keeps.trans kx (Keeps.trans k1 k2)
  have k04 : Keeps s { s3 with heap := h', toks := t } := by
    obtain ⟨h3, t3, e3, k3⟩ := k03
    subst e3
    exact ⟨h', t, rfl, fun b o e => k4 b o (Nat.ne_of_lt (Heap.lt_size e)) (k3 b o e)⟩
  refine wpAny_execs_cons (wpAny_Return_some (BoolOp_and (wpAny_Compare1 (wpAny_Name (wpAny_loadName_local rfl (by rfl) n4 (by rfl) (Constant_none (isnot_none_gen (wpAny_truthy_bool ?_))))) (nomark _))))
  have fin : ∀ {b : Bool} {t' : Nat}, b = betterB o x y → R (.ok (.ret (.bool b))) { s3 with heap := h', toks := t' } := fun {b t'} e => by
    rw [e]
    exact hR _ (Keeps.trans k04 (keeps_tok _ _))
  rcases rkV_cs o x with ex | ⟨i, ex⟩
  · rw [ex] at r1
    obtain rfl : u1 = Value.none := r1
    refine ite_ff ?_
    refine fin ?_
    unfold betterB
    rw [ex]; rfl
  · rw [ex] at r1
    obtain ⟨t1, rfl⟩ := r1
    refine ite_tt (BoolOp_one (BoolOp_or (wpAny_Compare1 (wpAny_Name (wpAny_loadName_local rfl (by rfl) n4 (by rfl) (Constant_none (is_none_gen (wpAny_truthy_bool ?_))))) (nomark _))))
    rcases rkV_cs o y with ey | ⟨j, ey⟩
    · rw [ey] at r2
      obtain rfl : u2 = Value.none := r2
      refine ite_tt ?_
      refine fin ?_
      unfold betterB
      rw [ex, ey]; rfl
    · rw [ey] at r2
      obtain ⟨t2, rfl⟩ := r2
      refine ite_ff (BoolOp_one (wpAny_Compare1 (wpAny_Name (wpAny_loadName_local rfl (by rfl) n4 (by rfl) (wpAny_Name (wpAny_loadName_local rfl (by rfl) n4 (by rfl) ?_)))) (nomark _)))
      refine lt_int ?_
      refine fin ?_
      unfold betterB
      rw [ex, ey]
end
end K6

/-! ## KRaw2 -/
set_option maxRecDepth 100000
set_option maxHeartbeats 4000000
/-! market.askers[asker].better(match[asker], truth[asker]), where the generator wakes. -/
namespace K6
open PySem PySem.Spec PyProof.Rows L2
/-- the test of one of the lot -/
def CLot (a : Ad) (σ : L2.St) (H : Hp) (v : V) (b : Bool) : Prop :=
  ∃ (m : Addr) (L O : List (List Nat)) (S : List Nat) (hm hd : List (Option Nat)) (tm tt : Addr) (c : Nat) (o : List Nat) (x y : Option Nat), σ[0]? = some (some (.ref m)) ∧ MktAt a H m L O S ∧ σ[7]? = some (some (.ref tm)) ∧ H tm = some (.tup (optL hm)) ∧
    σ[2]? = some (some (.ref tt)) ∧ H tt = some (.tup (optL hd)) ∧ v = .int (c : Nat) ∧ L[c]? = some o ∧ hm[c]? = some x ∧ hd[c]? = some y ∧ b = betterB o x y
section
variable {P : Program} {w : World} {K : PySem.W.Frag} {mg : Str → Option Value} {base : Heap} {a : Ad} {H : Hp} {h h' : Heap} {A : Around} {s : Shared} {E : Value → Shared → Prop}
theorem up_of {H : Hp} {T b : Addr} {u : HO} (hT : GxR.TabG H T) (e : H b = some u) (n : ∀ q, u ≠ .tbl q) : (fun b => if b = T then none else H b : Hp) b = some u := by
  obtain ⟨ps, hP, _⟩ := hT
  have hb : b ≠ T := fun z => by
    rw [z, hP] at e
    exact n ps (Option.some.inj e).symm
  show (if b = T then none else H b) = _
  rw [if_neg hb]; exact e
theorem kp_cell {s s' : Shared} {c : Addr} {v : Option Value} (i : s.heap.IsCell c v) (k : Keeps s s') : s'.heap.IsCell c v := by
  obtain ⟨h1, t, rfl, e⟩ := k
  obtain ⟨o, ho, hd⟩ := i
  exact ⟨o, e _ _ ho, hd⟩
theorem opt_at {hd : List (Option Nat)} {c : Nat} {x : Option Nat} (h : hd[c]? = some x) : (optL hd)[c]? = some (optV x) := by
  unfold optL
  rw [List.getElem?_map, h]
  rfl
/-- x[y], a list -/
theorem raw_il {env : Env} {e : Expr} {y : Str} {py pos : Pos} {la : Addr} {xs : List V} {c : Nat} {tu : Tok} {v : V} {L : Addr} {m : Str → Option Value} {Q : Value → Shared → Prop} (W : Rw P w base H s.heap)
    (hk : env.scope.kind = .function) (l2 : env.kindOf y = some .local) (hL : L = env.locals) (ns : s.heap.Ns L m) (hy : m y = some (.int (c : Nat) tu))
    (he : ∀ Q', (∀ s', Keeps s s' → Q' (.ref la) s') → wpAny (model P w) A (eval e env) Q' E s) (hl : H la = some (.lst xs)) (hc : xs[c]? = some v)
    (h : ∀ u s', RelV v u → Keeps s s' → Q u s') (d2 : (y == ("__debug__" : Str)) = false := by decide)
    (hs : ∀ u, subscripted (.Name y py) false (.ref la) (.int (c : Nat) u) = operate [.ref la, .int (c : Nat) u] (getItem (.ref la) (.int (c : Nat) u)) := by intro _; with_unfolding_all rfl) :
    wpAny (model P w) A (eval (.Subscript e (.Name y py) pos) env) Q E s := by
  subst hL
  refine Subscript_ (he _ fun s1 k1 => wpAny_Name (wpAny_loadName_local hk l2 (kp_ns ns k1) hy ?_) d2)
  obtain ⟨hz, its, n, rv, ob⟩ := (W.kp k1).hok la _ hl
  have hlen := rv.length
  have hn := line63
  have hlt := (List.getElem?_eq_some_iff.mp hc).1
  obtain ⟨u, hu, ru⟩ := rv.get hc
  exact item_listR (items := its.toArray) ⟨_, ob, rfl, n, rfl⟩ (by omega) (by omega) (by rw [Int.toNat_natCast]; simpa using hu) (h u _ ru k1) (hs _)
/-- x[y], a tuple -/
theorem raw_it {env : Env} {e : Expr} {y : Str} {py pos : Pos} {la : Addr} {xs : List V} {c : Nat} {tu : Tok} {v : V} {L : Addr} {m : Str → Option Value} {Q : Value → Shared → Prop} (W : Rw P w base H s.heap)
    (hk : env.scope.kind = .function) (l2 : env.kindOf y = some .local) (hL : L = env.locals) (ns : s.heap.Ns L m) (hy : m y = some (.int (c : Nat) tu))
    (he : ∀ Q', (∀ s', Keeps s s' → Q' (.ref la) s') → wpAny (model P w) A (eval e env) Q' E s) (hl : H la = some (.tup xs)) (hc : xs[c]? = some v)
    (h : ∀ u s', RelV v u → Keeps s s' → Q u s') (d2 : (y == ("__debug__" : Str)) = false := by decide)
    (hs : ∀ u, subscripted (.Name y py) false (.ref la) (.int (c : Nat) u) = operate [.ref la, .int (c : Nat) u] (getItem (.ref la) (.int (c : Nat) u)) := by intro _; with_unfolding_all rfl) (hg : ∀ r, letTemporaryGo e (.ref la) r = pure () := by intro _; with_unfolding_all rfl) :
    wpAny (model P w) A (eval (.Subscript e (.Name y py) pos) env) Q E s := by
  subst hL
  refine Subscript_ (he _ fun s1 k1 => wpAny_Name (wpAny_loadName_local hk l2 (kp_ns ns k1) hy ?_) d2)
  obtain ⟨hz, its, rv, ob⟩ := (W.kp k1).hok la _ hl
  have hlen := rv.length
  have hn := line63
  have hlt := (List.getElem?_eq_some_iff.mp hc).1
  obtain ⟨u, hu, ru⟩ := rv.get hc
  refine item_tupleL (j := c) (l := its) ob (by omega) (by omega) ?_ hu (h u _ ru k1) (hs _) hg
  unfold seqIndex?
  simp
  omega
theorem elt_lot {X : Cx} {scope : Scope} {p1 p2 p3 p4 p5 p6 p7 p8 p9 pa pb pos : Pos} (T : Txt X.K X.mg X.base a) (hr : Room 3 X.A) (hk : scope.kind = .function) (hl : scope.names.lookup ("asker" : Str) = some .local)
    (N0 : X.N[0]? = some ("market" : Str)) (N2 : X.N[2]? = some ("truth" : Str)) (N7 : X.N[7]? = some ("match" : Str))
    (c0 : X.env.scope.names.lookup ("market" : Str) = some .cell) (c2 : X.env.scope.names.lookup ("truth" : Str) = some .cell) (c7 : X.env.scope.names.lookup ("match" : Str) = some .cell)
    (f0 : scope.names.lookup ("market" : Str) = some .free) (f2 : scope.names.lookup ("truth" : Str) = some .free) (f7 : scope.names.lookup ("match" : Str) = some .free)
    (hfree : ∀ y ∈ scope.names, y.2 = .free → ∃ c, X.env.cells.lookup y.1 = some c) {pl : Sem Bool}
    (ht : ∀ env : Env, eval (.Call (.Attribute (.Subscript (.Attribute (.Name "market" p1) "askers" p2) (.Name "asker" p3) p4) "better" p5) [.Subscript (.Name "match" p6) (.Name "asker" p7) p8, .Subscript (.Name "truth" p9) (.Name "asker" pa) pb] [] pos) env = (do
      let ov ← eval (.Subscript (.Attribute (.Name "market" p1) "askers" p2) (.Name "asker" p3) p4) env
      standAt p5.atName
      let (f, first) ← holding [ov] (getMethod ov "better" pl)
      callWith pos f first (backTo pos (starEach [.Subscript (.Name "match" p6) (.Name "asker" p7) p8, .Subscript (.Name "truth" p9) (.Name "asker" pa) pb] env)) (backToKw pos (keywordEach [] env))) := by intro _; rfl) :
    EltC X a.p3 scope "asker" (.Call (.Attribute (.Subscript (.Attribute (.Name "market" p1) "askers" p2) (.Name "asker" p3) p4) "better" p5) [.Subscript (.Name "match" p6) (.Name "asker" p7) p8, .Subscript (.Name "truth" p9) (.Name "asker" pa) pb] [] pos) (CLot a) := by
  intro pins σ H s v u b I hT hC r L code bi A' E' s₂ m₂ hA hD hU hn hm kp
  obtain ⟨m, L', O, S, hm', hd', tm, tt, c, o, x, y, h0, M, h7, htm, h2, htt, rfl, hLc, hx, hy, rfl⟩ := hC
  obtain ⟨tu, rfl⟩ := r
  have W := Rw.wake I hT kp
  have Mo := I.mod
  obtain ⟨dx, la, lr, ts, as, rs, q1, q2, q3, q4, q5, q6⟩ := M
  obtain ⟨p, hp, wi⟩ := paired_get q5 hLc
  obtain ⟨cm, um, em, im, rm⟩ := free_look I hT N0 h0 c0 f0 hfree kp
  obtain ⟨ct, ut, et, it, rt⟩ := free_look I hT N2 h2 c2 f2 hfree kp
  obtain ⟨ch, uh, eh, ih, rh⟩ := free_look I hT N7 h7 c7 f7 hfree kp
  cases rm; cases rt; cases rh
  have wi2 : WishAt a (fun b => if b = a.p3 then none else H b) p o := by
    obtain ⟨dw, t, d, w1, w2, w3⟩ := wi
    exact ⟨dw, t, d, up_of hT w1 (fun q z => by cases z), up_of hT w2 (fun q z => by cases z), up_of hT w3 (fun q z => by cases z)⟩
  have hl' : (genEnv scope (cloFrom X.env.cells scope.names []) L code bi X.env).kindOf ("asker" : Str) = some .local := hl
  have f0' : (genEnv scope (cloFrom X.env.cells scope.names []) L code bi X.env).kindOf ("market" : Str) = some .free := f0
  have f2' : (genEnv scope (cloFrom X.env.cells scope.names []) L code bi X.env).kindOf ("truth" : Str) = some .free := f2
  have f7' : (genEnv scope (cloFrom X.env.cells scope.names []) L code bi X.env).kindOf ("match" : Str) = some .free := f7
  have dp := hr.dp
  refine PySem.W.methodCall_KW (pl := pl) (raw_il W hk hl' rfl hn hm (fun Q' k => attr_of rfl (wpAny_Name (wpAny_loadName_free hk f0' em im (raw_fld Mo W (up_of hT q1 (fun q z => by cases z)) T.cl_M T.n_M_askers (mf_askers _ _ _) fun u s' r k' => by cases r; exact k s' k'))))
    (up_of hT q2 (fun q z => by cases z)) (ref_at hp) fun u s3 r3 k3 => ?_) (ht _)
  cases r3
  have W3 := W.kp k3
  obtain ⟨dw, t, d, w1, w2, w3⟩ := id wi2
  refine raw_mth Mo W3 w1 T.cl_W T.m_W_better (wf_no _ _ (by decide +kernel) (by decide +kernel)) ?_
  refine PySem.W.callWith_K (first := [.ref p]) (h₀ := X.base) Mo.kin T.m_W_better.kp ?_ (by rfl) (by rfl)
  refine Calls.spliced_cons (raw_it W3 hk hl' rfl (kp_ns hn k3) hm (fun Q' k => wpAny_Name (wpAny_loadName_free hk f7' eh (kp_cell ih k3) (k _ (keeps_refl _)))) (up_of hT htm (fun q z => by cases z)) (opt_at hx) fun ux s4 rx k4 => ?_)
  have W4 := W3.kp k4
  have n4 := kp_ns (kp_ns hn k3) k4
  refine Calls.spliced_cons (raw_it W4 hk hl' rfl n4 hm (fun Q' k => wpAny_Name (wpAny_loadName_free hk f2' et (kp_cell (kp_cell it k3) k4) (k _ (keeps_refl _)))) (up_of hT htt (fun q z => by cases z)) (opt_at hy) fun uy s5 ry k5 => ?_)
  have W5 := W4.kp k5
  refine Calls.spliced_nil ⟨Mo.kin.keeps W5.bk, ?_⟩
  refine wpAny_call (raw_better T Mo W5 wi2 rx ry hA (by omega) fun s6 k6 => ?_)
  exact ⟨rfl, Keeps.trans k3 (Keeps.trans k4 (Keeps.trans k5 k6))⟩
end
end K6

/-! ## KAsk3 -/
set_option maxRecDepth 100000
set_option maxHeartbeats 4000000
/-! Asking.ask. -/
namespace K6
open PySem PySem.Spec PyProof.Rows L2
def dm (L O : List (List Nat)) (S : List Nat) : DA.Mkt Nat Nat := ⟨fun x => L.getD x [], fun r => O.getD r [], fun r => S.getD r 0⟩
def ds (nx : List Nat) (hd : List (Option Nat)) : DA.St Nat Nat := ⟨fun x => nx.getD x 0, fun x => hd.getD x none⟩
def spAAsk (a : Ad) : Sp := fun vs H Q _ => ∃ (H0 : Hp) (k m ln lh ls : Addr) (L O : List (List Nat)) (S nx : List Nat) (hd : List (Option Nat)) (c : Nat) (ts : Nat → Nat) (T : Nat), vs = [.ref k, .int (c : Nat)] ∧ AskAt a H0 H k m ln lh ls L O S nx hd ∧ c < L.length ∧
  wantsB L nx hd c = true ∧ DA.Inv (dm L O S) (ds nx hd) ts T ∧ Tb a H0 ∧
  ∀ v H' nx' hd', AskAt a H0 H' k m ln lh ls L O S nx' hd' → nx' = nx.set c (nx.getD c 0 + 1) → DA.Step (dm L O S) (ds nx hd) c (ds nx' hd') → Q v H'
theorem sum_le {l : List Nat} (h : ∀ i, l.getD i 0 ≤ 100) : l.sum ≤ 100 * l.length := by
  induction l with
  | nil => exact Nat.le_refl _
  | cons x l ih =>
    have h0 := h 0
    have := ih fun i => by have := h (i + 1); simpa using this
    simp only [List.sum_cons, List.length_cons]
    have h1 : x ≤ 100 := by simpa using h0
    omega
theorem sum_set : ∀ {l : List Nat} {i n : Nat}, l[i]? = some n → (l.set i (n + 1)).sum = l.sum + 1
  | [], _, _, h => by simp at h
  | x :: l, 0, n, h => by
    have e : x = n := by simpa using h
    subst e
    simp
    omega
  | x :: l, i + 1, n, h => by
    have := sum_set (l := l) (i := i) (n := n) (by simpa using h)
    simp [this]
    omega
theorem getD_set {α : Type} {l : List α} {i : Nat} {x d : α} (h : i < l.length) : (fun k => (l.set i x).getD k d) = DA.setF (fun k => l.getD k d) i x := by
  funext k
  unfold DA.setF
  by_cases e : k = i
  · rw [if_pos e, e, List.getD_eq_getElem?_getD, List.getElem?_set_self h]; rfl
  · rw [if_neg e, List.getD_eq_getElem?_getD, List.getElem?_set_ne (Ne.symm e)]
    exact (List.getD_eq_getElem?_getD ..).symm
theorem ds_nx {nx : List Nat} {hd : List (Option Nat)} {c v : Nat} (h : c < nx.length) : ds (nx.set c v) hd = ⟨DA.setF (ds nx hd).nx c v, (ds nx hd).hd⟩ := by
  unfold ds
  rw [getD_set h]
theorem ds_1 {nx : List Nat} {hd : List (Option Nat)} {c v : Nat} {x : Option Nat} (h : c < nx.length) (h2 : c < hd.length) : ds (nx.set c v) (hd.set c x) = ⟨DA.setF (ds nx hd).nx c v, DA.setF (ds nx hd).hd c x⟩ := by
  unfold ds
  rw [getD_set h, getD_set h2]
theorem ds_2 {nx : List Nat} {hd : List (Option Nat)} {c v d : Nat} {x y : Option Nat} (h : c < nx.length) (h2 : c < hd.length) (h3 : d < hd.length) : ds (nx.set c v) ((hd.set c x).set d y) = ⟨DA.setF (ds nx hd).nx c v, DA.setF (DA.setF (ds nx hd).hd c x) d y⟩ := by
  unfold ds
  rw [getD_set h, getD_set (by rw [List.length_set]; exact h3), getD_set h2]
theorem mem_inHd {hd : List (Option Nat)} {r b : Nat} : b ∈ inHd hd r ↔ hd.getD b none = some r := by
  unfold inHd
  rw [List.mem_filter, List.mem_range, decide_eq_true_eq]
  refine ⟨fun h => h.2, fun h => ⟨?_, h⟩⟩
  cases e : hd[b]? with
  | none => rw [List.getD_eq_getElem?_getD, e] at h; cases h
  | some _ => exact (List.getElem?_eq_some_iff.mp e).1
theorem inHd_len {L O : List (List Nat)} {S nx : List Nat} {hd : List (Option Nat)} {ts : Nat → Nat} {T r : Nat} (wf : WF L O S) (I : DA.Inv (dm L O S) (ds nx hd) ts T) (no : (O.getD r []).Nodup) :
    (DA.inside (dm L O S) (ds nx hd).hd r).length = (inHd hd r).length := by
  unfold DA.inside inHd
  refine DA.countP_eq_of (p := fun x => decide (hd.getD x none = some r)) no List.nodup_range (fun x hx => ?_) (fun x hx => ?_)
  · exact (I.i1 x r (of_decide_eq_true hx)).1.2
  · exact (List.mem_filter.mp (mem_inHd.mpr (of_decide_eq_true hx))).1
def newHd (hd : List (Option Nat)) (c r : Nat) (x : Option Nat) : List (Option Nat) :=
  if x = some c then hd else match x with | none => hd.set c (some r) | some d => (hd.set c (some r)).set d none
/-- what the asking comes to -/
structure AskLaw (L O : List (List Nat)) (S nx : List Nat) (hd : List (Option Nat)) (c n r : Nat) (x : Option Nat) : Prop where
  lt : ∀ d, x = some d → d < hd.length
  st : DA.Step (dm L O S) (ds nx hd) c (ds (nx.set c (n + 1)) (newHd hd c r x))
theorem newHd_len {hd : List (Option Nat)} {c r : Nat} {x : Option Nat} : (newHd hd c r x).length = hd.length := by
  unfold newHd
  split
  · rfl
  · cases x <;> simp
section
variable {L O : List (List Nat)} {S nx : List Nat} {hd : List (Option Nat)} {c n r sr : Nat} {l ord : List Nat} {tm : Nat → Nat} {Tm : Nat}
theorem law_no (hcx : c < nx.length) (hch : c < hd.length) (hn : nx[c]? = some n) (hl : L[c]? = some l) (hr : l[n]? = some r) (hord : O[r]? = some ord) (h : c ∉ ord) : AskLaw L O S nx hd c n r (some c) := by
  refine ⟨fun d e => by cases e; exact hch, ?_⟩
  unfold newHd
  rw [if_pos rfl, ds_nx hcx]
  have e1 : (ds nx hd).nx c = n := getD_of hn
  have := DA.Step.no (M := dm L O S) (s := ds nx hd) (c := c) r (by rw [e1]; show (L.getD c [])[n]? = _; rw [getD_of hl]; exact hr) (by show c ∉ O.getD r []; rw [getD_of hord]; exact h)
  rw [e1] at this
  exact this
theorem law_in (wf : WF L O S) (I : DA.Inv (dm L O S) (ds nx hd) tm Tm) (hcx : c < nx.length) (hch : c < hd.length) (ho : hd[c]? = some none) (hn : nx[c]? = some n) (hl : L[c]? = some l) (hr : l[n]? = some r) (hord : O[r]? = some ord) (hsr : S[r]? = some sr) (h : c ∈ ord) :
    (sr = 0 → AskLaw L O S nx hd c n r (some c)) ∧ ((inHd hd r).length ≠ sr → AskLaw L O S nx hd c n r none) ∧
    ((inHd hd r).length = sr → ∀ d, d ∈ inHd hd r ++ [c] → (∀ x, x ∈ inHd hd r ++ [c] → ord.idxOf x ≤ ord.idxOf d) → AskLaw L O S nx hd c n r (some d)) ∧ ∀ x, x ∈ inHd hd r ++ [c] → x ∈ ord := by
  have e1 : (ds nx hd).nx c = n := getD_of hn
  have eo : (dm L O S).ord r = ord := getD_of hord
  have es : (dm L O S).seats r = sr := getD_of hsr
  have ep : ((dm L O S).pref c)[(ds nx hd).nx c]? = some r := by rw [e1]; show (L.getD c [])[n]? = _; rw [getD_of hl]; exact hr
  have ci : c ∈ (dm L O S).ord r := by rw [eo]; exact h
  have no : (O.getD r []).Nodup := by rw [getD_of hord]; exact (wf.or ord (List.mem_of_getElem? hord)).1
  have il := inHd_len (r := r) wf I no
  have i3 := I.i3 r
  rw [es] at i3
  have hcn : (ds nx hd).hd c = none := getD_of ho
  have mi : ∀ b, b ∈ DA.inside (dm L O S) (ds nx hd).hd r → b ∈ inHd hd r := fun b hb => mem_inHd.mpr (DA.mem_inside.mp hb).2
  have mo : ∀ b, b ∈ inHd hd r → b ∈ (dm L O S).ord r := fun b hb => (I.i1 b r (mem_inHd.mp hb)).1.2
  have mi2 : ∀ b, b ∈ inHd hd r → b ∈ DA.inside (dm L O S) (ds nx hd).hd r := fun b hb => DA.mem_inside.mpr ⟨mo b hb, mem_inHd.mp hb⟩
  have hbc : ∀ b, b ∈ inHd hd r → b ≠ c := fun b hb e => by
    have := mem_inHd.mp hb
    rw [e, getD_of ho] at this
    cases this
  refine ⟨fun e => ?_, fun e => ?_, fun e d hd' hm => ?_, fun x hx => ?_⟩
  · refine ⟨fun d e => by cases e; exact hch, ?_⟩
    unfold newHd
    rw [if_pos rfl, ds_nx hcx]
    have := DA.Step.refuse (M := dm L O S) (s := ds nx hd) (c := c) r ep ci (by rw [es]; omega) (fun b hb => by
      have := List.length_pos_of_mem hb
      omega)
    rw [e1] at this
    exact this
  · refine ⟨fun d e => by (cases e), ?_⟩
    unfold newHd
    rw [if_neg (by simp)]
    show DA.Step _ _ _ (ds _ (hd.set c (some r)))
    rw [ds_1 hcx hch]
    have := DA.Step.free (M := dm L O S) (s := ds nx hd) (c := c) r ep ci (by rw [es]; omega)
    rw [e1] at this
    exact this
  · by_cases hdc : d = c
    · subst hdc
      refine ⟨fun d e => by cases e; exact hch, ?_⟩
      unfold newHd
      rw [if_pos rfl, ds_nx hcx]
      have := DA.Step.refuse (M := dm L O S) (s := ds nx hd) (c := d) r ep ci (by rw [es]; omega) (fun b hb => by
        rw [eo]
        have h1 := hm b (List.mem_append_left _ (mi b hb))
        have h2 : ord.idxOf b ≠ ord.idxOf d := fun z => hbc b (mi b hb) (DA.idx_inj (eo ▸ mo b (mi b hb)) z)
        omega)
      rw [e1] at this
      exact this
    · have hdi : d ∈ inHd hd r := (List.mem_append.mp hd').resolve_right fun z => hdc (List.mem_singleton.mp z)
      have hdl : d < hd.length := List.mem_range.mp (List.mem_filter.mp hdi).1
      refine ⟨fun d' e => by cases e; exact hdl, ?_⟩
      unfold newHd
      rw [if_neg (by simpa using hdc)]
      show DA.Step _ _ _ (ds _ ((hd.set c (some r)).set d none))
      rw [ds_2 hcx hch hdl]
      have := DA.Step.full (M := dm L O S) (s := ds nx hd) (c := c) r d ep ci (by rw [es]; omega) (mi2 d hdi) (by
        rw [eo]
        have h1 := hm c (by simp)
        have h2 : ord.idxOf d ≠ ord.idxOf c := fun z => hdc (DA.idx_inj (eo ▸ mo d hdi) z)
        omega) (fun b hb => by rw [eo]; exact hm b (List.mem_append_left _ (mi b hb)))
      rw [e1] at this
      exact this
  · rcases List.mem_append.mp hx with z | z
    · exact eo ▸ mo x z
    · rw [List.mem_singleton.mp z]; exact h
end
theorem seq_via {t u : TS} {D : Ends} {σ : L2.St} {H : Hp} (C : L2.St → Hp → Prop) (fin : ∀ σ' H', C σ' H' → u D σ' H') (h : (∀ σ' H', C σ' H' → u D σ' H') → t { D with nx := u D } σ H) : tSeq t u D σ H := h fin
section
variable {P : Program} {w : World} {K : PySem.W.Frag} {mg : Str → Option Value} {base : Heap} {a : Ad}
theorem sc_A_ask : FnScope ["self", "asker", "room", "wish", "count", "inside", "refused"] ["self", "asker"] (defScope s_A_ask) := ⟨rfl, rfl, rfl, by decide +kernel, rfl, by decide +kernel, by decide +kernel⟩
theorem ok_A_ask (T : Txt K mg base a) : FnOk P w K mg base CX0 4 a.f_A_ask a.d_A_ask ["self", "asker"] (spAAsk a) := by
  have GT : FnOk P w K mg base CX0 1 a.f_g_those_in a.d_g_those_in ["match", "room"] (spThose a) := ok_those_in T
  have GH : FnOk P w K mg base CX0 1 a.f_W_has a.d_W_has ["self", "one"] (spHas a) := ok_W_has T
  have GW : FnOk P w K mg base CX0 3 a.f_W_worst a.d_W_worst ["self", "ones"] (spWorst a) := ok_W_worst T
  refine T.F_A_ask.ok sc_A_ask (fun vs H Q E h => ?_) (fun cdv A outer s H vs Q E hr h => ?_)
  · obtain ⟨H0, k, m, ln, lh, ls, L, O, S, nx, hd, c, ts, T, rfl, _⟩ := h
    rfl
  · obtain ⟨H0, k, m, ln, lh, ls, L, O, S, nx, hd, c, tm, Tm, rfl, M, hc, hw, I, tb, kk⟩ := h
    have nd := sc_A_ask.nd
    have hr1 : Room 1 _ := hr.mono (by decide)
    refine ⟨_, pss_cons (ps_set (i := 2) nd rfl (Or.inl rfl) (pe_ix ix_tup (pe_fld (pe_ix ix_list (pe_fld (pe_fld (pv 0) rfl) rfl) (pv 1) (fun _ _ => rfl)) rfl) (pe_ix ix_list (pe_fld (pv 0) rfl) (pv 1) (fun _ _ => rfl)) (fun _ _ => rfl)))
      (pss_cons (ps_augS (pe_fld (pv 0) rfl) (pv 1) get_listN pe_int ip_add set_list)
      (pss_cons (ps_par (i := 3) (j := 4) rfl nd rfl rfl (by decide) rfl rfl (pa_cons (pe_ix ix_list (pe_fld (pe_fld (pv 0) rfl) rfl) (pv 2) (fun _ _ => rfl)) (pa_cons (pe_ix ix_tup (pe_fld (pe_fld (pv 0) rfl) rfl) (pv 2) (fun _ _ => rfl)) pa_nil)) (by rfl))
      (pss_cons (ps_set (i := 5) nd rfl (Or.inl rfl) (pe_call GT hr1 (by rfl) T.g_g_those_in T.F_g_those_in.kp T.b_g_those_in .nil pass0 (pa_cons (pe_fld (pv 0) rfl) (pa_cons (pv 2) pa_nil))))
      (pss_cons (ps_set (i := 6) nd rfl (Or.inl rfl) (pv 1))
      (pss_cons (ps_if (PW.pt (pw_and (pt_val (pe_meth (pv 3) T.cl_W T.m_W_has GH hr1 T.b_W_has .nil pass0 (pa_cons (pv 1) pa_nil))) (pw_and1 (pt_cmpR op_gt (pv 4) pe_int (nomark _)))))
          (pss_cons (ps_set (i := 6) nd rfl (Or.inl rfl) pe_non) (pss_one (ps_if (pt_cmpR op_eq (pe_callB call_lenS (by rfl) T.z_len bt_len (pa_cons (pv 5) pa_nil)) (pv 4) (nomark _))
            (pss_one (ps_set (i := 6) nd rfl (Or.inl rfl) (pe_meth (pv 3) T.cl_W T.m_W_worst GW hr T.b_W_worst .nil pass0 (pa_cons (pe_op (r := rCatA K) op_catA (pv 5) (pe_tup (pa_cons (pv 1) pa_nil))) pa_nil)))) pss_nil))) pss_nil)
      (pss_cons (ps_if (pt_cmpR op_ne (pv 6) (pv 1) (nomark _))
          (pss_cons (ps_asg (pv 2) (pg_sub (pe_fld (pv 0) rfl) (pv 1) set_list)) (pss_one (ps_if (pt_cmpR op_notN (pv 6) pe_non (nomark _))
            (pss_one (ps_asg pe_non (pg_sub (pe_fld (pv 0) rfl) (pv 6) set_list))) pss_nil))) pss_nil)
      (pss_cons (ps_expr (pe_bm PySem.F.plainAttrs_list PySem.F.slot_list_append PySem.F.type_list_append mt_append (pe_fld (pv 0) rfl) (pa_cons (pe_tup (pa_cons (pv 1) (pa_cons (pv 2) (pa_cons (pv 6) pa_nil)))) pa_nil)))
      (pss_one (ps_ret (pe_ix ix_list (pe_fld (pv 0) rfl) (pe_un un_neg pe_int) (fun _ _ => rfl))))))))))), ?_⟩
    obtain ⟨dx, hk⟩ := M.ins
    obtain ⟨dm', la, lr, tst, as, rs, h1, h2, h3, h4, h5, h6⟩ := M.mt.gr M.g
    obtain ⟨st, hs, hsl⟩ := M.hs
    have hcx : c < nx.length := by rw [M.l1]; exact hc
    have hch : c < hd.length := by rw [M.l2]; exact hc
    obtain ⟨o, ho⟩ := get_lt (l := hd) (i := c) hch
    obtain ⟨n, hn⟩ := get_lt (l := nx) (i := c) hcx
    obtain ⟨l, hl⟩ := get_lt (l := L) (i := c) hc
    unfold wantsB at hw
    rw [getD_of ho, getD_of hn, getD_of hl, Bool.and_eq_true, decide_eq_true_eq, decide_eq_true_eq] at hw
    obtain ⟨rfl, hnl⟩ := hw
    obtain ⟨r, hr'⟩ := get_lt (l := l) (i := n) hnl
    obtain ⟨wl1, wl2, wl3⟩ := M.wf.li l (List.mem_of_getElem? hl)
    have hrO : r < O.length := wl2 r (List.mem_of_getElem? hr')
    obtain ⟨ord, hord⟩ := get_lt (l := O) (i := r) hrO
    obtain ⟨sr, hsr⟩ := get_lt (l := S) (i := r) (by rw [M.wf.ls]; exact hrO)
    obtain ⟨wo1, wo2, wo3⟩ := M.wf.or ord (List.mem_of_getElem? hord)
    obtain ⟨wp, hwp, dw, tw, dd, w1, w2, w3⟩ := paired_get h5 hl
    dsimp only [tNext, tSeq]
    -- room = self.market.askers[asker].order[self.next[asker]]
    refine ⟨_, rfl, k, a.cA, dx, _, _, rfl, hk, T.cl_A, T.n_A_market, af_market _ _ _ _, m, a.cM, dm', _, _, rfl, h1, T.cl_M, T.n_M_askers, mf_askers _ _ _, _, rfl, la, _, _, _, rfl, rfl, SqL.of h2, atI_nat (ref_at hwp),
      wp, a.cW, dw, _, _, rfl, w1, T.cl_W, T.n_W_order, wf_order _ _, _, rfl, k, a.cA, dx, _, _, rfl, hk, T.cl_A, T.n_A_next, af_next _ _ _ _, _, rfl, ln, _, _, _, rfl, rfl, SqL.of M.hn, atI_nat (natV_at hn), ?_⟩
    refine ⟨tw, _, _, _, rfl, rfl, SqT.of w2, atI_nat (natV_at hr'), ?_⟩
    -- self.next[asker] += 1
    refine ⟨_, rfl, k, a.cA, dx, _, _, rfl, hk, T.cl_A, T.n_A_next, af_next _ _ _ _, _, rfl, ln, _, c, _, rfl, rfl, M.hn, natV_at hn, _, _, rfl, rfl, ln, _, _, c, rfl, rfl, M.hn, ixN_nat (by rw [natV_len]; exact hcx), ?_⟩
    have eset : (natV nx).set c (V.int ((n : Int) + 1)) = natV (nx.set c (n + 1)) := by unfold natV; rw [List.map_set]; rfl
    rw [eset]
    have g01 : Gr a H0 (upd H ln (.lst (natV (nx.set c (n + 1))))) := Gx.app M.g M.n1 M.hn rfl
    have hk1 := upd_ins (o := .lst (natV (nx.set c (n + 1)))) hk M.hn
    have hln1 : upd H ln (.lst (natV (nx.set c (n + 1)))) ln = _ := upd_same
    have hlh1 : upd H ln (.lst (natV (nx.set c (n + 1)))) lh = _ := (upd_ne (Ne.symm M.d1)).trans M.hh
    have hls1 : upd H ln (.lst (natV (nx.set c (n + 1)))) ls = _ := (upd_ne (Ne.symm M.d2)).trans hs
    generalize upd H ln (.lst (natV (nx.set c (n + 1)))) = H1 at *
    obtain ⟨dm1, la1, lr1, ts1, as1, rs1, q1, q2, q3, q4, q5, q6⟩ := M.mt.gr g01
    obtain ⟨wr, hwr, W⟩ := paired_get q6 hord
    obtain ⟨dw1, tw1, dd1, v1, v2, v3⟩ := id W
    -- wish, count = (self.market.rooms[room], self.market.seats[room])
    refine ⟨_, rfl, k, a.cA, dx, _, _, rfl, hk1, T.cl_A, T.n_A_market, af_market _ _ _ _, m, a.cM, dm1, _, _, rfl, q1, T.cl_M, T.n_M_rooms, mf_rooms _ _ _, _, rfl, lr1, _, _, _, rfl, rfl, SqL.of q3, atI_nat (ref_at hwr), ?_⟩
    refine ⟨_, rfl, k, a.cA, dx, _, _, rfl, hk1, T.cl_A, T.n_A_market, af_market _ _ _ _, m, a.cM, dm1, _, _, rfl, q1, T.cl_M, T.n_M_seats, mf_seats _ _ _, _, rfl, ts1, _, _, _, rfl, rfl, SqT.of q4, atI_nat (natV_at hsr), _, _, rfl, ?_⟩
    -- inside = those_in(self.held, room)
    refine ⟨_, rfl, k, a.cA, dx, _, _, rfl, hk1, T.cl_A, T.n_A_held, af_held _ _ _ _, _, rfl, lh, hd, r, rfl, hlh1, by rw [M.l2]; exact Nat.le_trans M.wf.la (by decide), fun ti H2 g2 hti => ?_⟩
    -- refused = asker
    refine ⟨_, rfl, ?_⟩
    have law1 := fun h => law_no (S := S) hcx hch hn hl hr' hord h
    have law2 := fun h => law_in M.wf I hcx hch ho hn hl hr' hord hsr h
    dsimp only [gName]
    refine seq_via (t := tIfS _ _ _) (fun σ' H' => ∃ x : Option Nat, σ' = [some (.ref k), some (.int (c : Nat)), some (.int (r : Nat)), some (.ref wr), some (.int (sr : Nat)), some (.ref ti), some (optV x)] ∧ Gr a H2 H' ∧ AskLaw L O S nx hd c n r x) (fun σ' H' hC => ?_) (fun fin => ?_)
    · obtain ⟨x, rfl, g3, al⟩ := hC
      have g13 := g2.trans g3
      have g03 := g01.trans g13
      have hk3 := Gr.ins g13 hk1
      have hln3 := Gr.lst g13 hln1
      have hlh3 := Gr.lst g13 hlh1
      have hls3 := Gr.lst g13 hls1
      refine seq_via (t := tIfS _ _ _) (fun σ'' H'' => σ'' = [some (.ref k), some (.int (c : Nat)), some (.int (r : Nat)), some (.ref wr), some (.int (sr : Nat)), some (.ref ti), some (optV x)] ∧ Gr a H0 H'' ∧ H'' k = some (.ins a.cA dx (af m ln lh ls)) ∧
        H'' ln = some (.lst (natV (nx.set c (n + 1)))) ∧ H'' lh = some (.lst (optL (newHd hd c r x))) ∧ H'' ls = some (.lst st)) (fun σ'' H'' hC => ?_) (fun fin => ?_)
      · obtain ⟨rfl, g0, hk4, hln4, hlh4, hls4⟩ := hC
        have hb : nx.sum ≤ 100 * nx.length := sum_le fun i => by
          have h1 : (ds nx hd).nx i ≤ (L.getD i []).length := I.i0 i
          have h2 : (L.getD i []).length ≤ 100 := by
            rw [List.getD_eq_getElem?_getD]
            cases e : L[i]? with
            | none => exact Nat.zero_le _
            | some l' => exact (M.wf.li l' (List.mem_of_getElem? e)).2.2
          exact Nat.le_trans h1 h2
        have hb2 : nx.length ≤ 10 := by rw [M.l1]; exact M.wf.la
        -- self.steps.append((asker, room, refused)); return self.steps[-1]
        refine ⟨_, rfl, k, a.cA, dx, _, _, rfl, hk4, T.cl_A, T.n_A_steps, af_steps _ _ _ _, .inl ⟨rfl, _, SqL.of hls4⟩, _, rfl, _, rfl, _, rfl, (by show 3 ≤ sizeLine; decide), fun tt ntt => ?_⟩
        have hls5 := new_keep (o := .tup [V.int (c : Nat), V.int (r : Nat), optV x]) hls4 ntt
        have g5 : Gr a H0 (upd H'' tt (.tup [V.int (c : Nat), V.int (r : Nat), optV x])) := g0.trans (Gx.new ntt)
        refine ⟨ls, _, _, rfl, rfl, hls5, sz1000 (by omega), ?_⟩
        have g6 : Gr a H0 (upd (upd H'' tt (.tup [V.int (c : Nat), V.int (r : Nat), optV x])) ls (.lst (st ++ [V.ref tt]))) := Gx.app g5 M.n3 hls5 rfl
        have hk6 := upd_ins (o := .lst (st ++ [V.ref tt])) (new_keep (o := .tup [V.int (c : Nat), V.int (r : Nat), optV x]) hk4 ntt) hls5
        refine ⟨_, rfl, k, a.cA, dx, _, _, rfl, hk6, T.cl_A, T.n_A_steps, af_steps _ _ _ _, ?_⟩
        refine ⟨_, rfl, ls, _, _, _, rfl, rfl, SqL.of upd_same, atI_last _ _, ?_⟩
        refine kk _ _ (nx.set c (n + 1)) (newHd hd c r x) ⟨g6, M.mt, M.wf, M.n0, M.n1, M.n2, M.n3, ⟨dx, hk6⟩, ?_, ?_, ⟨_, upd_same, ?_⟩, M.d1, M.d2, M.d3, by rw [List.length_set]; exact M.l1, by rw [newHd_len]; exact M.l2⟩ (by rw [getD_of hn]) al.st
        · exact (upd_ne M.d2).trans (new_keep hln4 ntt)
        · exact (upd_ne M.d3).trans (new_keep hlh4 ntt)
        · rw [List.length_append, List.length_singleton, sum_set hn]
          omega
      · dsimp only [tIfS]
        refine ⟨_, rfl, _, rfl, (optV_eq x c).1, _, rfl, ?_⟩
        rw [(optV_eq x c).2]
        by_cases hxc : x = some c
        · rw [decide_eq_true hxc]
          refine iteF ?_
          refine fin _ _ ⟨rfl, g03, hk3, hln3, ?_, hls3⟩
          unfold newHd
          rw [if_pos hxc]
          exact hlh3
        · rw [decide_eq_false hxc]
          refine iteT ?_
          -- self.held[asker] = room
          refine ⟨_, rfl, _, rfl, k, a.cA, dx, _, _, rfl, hk3, T.cl_A, T.n_A_held, af_held _ _ _ _, _, rfl, lh, _, _, c, rfl, rfl, hlh3, ixN_nat (by rw [optL_len]; exact hch), ?_⟩
          have eset : (optL hd).set c (V.int (r : Nat)) = optL (hd.set c (some r)) := by unfold optL; rw [List.map_set]; rfl
          rw [eset]
          have hk4 := upd_ins (o := .lst (optL (hd.set c (some r)))) hk3 hlh3
          have hln4 : upd H' lh (.lst (optL (hd.set c (some r)))) ln = _ := (upd_ne M.d1).trans hln3
          have hls4 : upd H' lh (.lst (optL (hd.set c (some r)))) ls = _ := (upd_ne (Ne.symm M.d3)).trans hls3
          have hlh4 : upd H' lh (.lst (optL (hd.set c (some r)))) lh = _ := upd_same
          have g04 : Gr a H0 (upd H' lh (.lst (optL (hd.set c (some r))))) := Gx.app g03 M.n2 hlh3 rfl
          generalize upd H' lh (.lst (optL (hd.set c (some r)))) = H4 at *
          refine ⟨_, rfl, rfl, _, rfl, ?_⟩
          cases x with
          | none =>
            refine iteF ?_
            refine fin _ _ ⟨rfl, g04, hk4, hln4, ?_, hls4⟩
            unfold newHd
            rw [if_neg hxc]
            exact hlh4
          | some d =>
            refine iteT ?_
            have hd4 : d < (hd.set c (some r)).length := by rw [List.length_set]; exact al.lt d rfl
            refine ⟨_, rfl, k, a.cA, dx, _, _, rfl, hk4, T.cl_A, T.n_A_held, af_held _ _ _ _, _, rfl, lh, _, _, d, rfl, rfl, hlh4, ixN_nat (by rw [optL_len]; exact hd4), ?_⟩
            have eset2 : (optL (hd.set c (some r))).set d V.non = optL ((hd.set c (some r)).set d none) := by unfold optL; rw [List.map_set, List.map_set, List.map_set]; rfl
            rw [eset2]
            refine fin _ _ ⟨rfl, Gx.app g04 M.n2 hlh4 rfl, upd_ins hk4 hlh4, (upd_ne M.d1).trans hln4, ?_, (upd_ne (Ne.symm M.d3)).trans hls4⟩
            rw [upd_same]
            unfold newHd
            rw [if_neg hxc]
    · dsimp only [tIfS]
      refine ⟨_, rfl, wr, dw1, _, rfl, Gr.ins g2 v1, wf_no _ _ (by decide +kernel) (by decide +kernel), _, rfl, wr, ord, c, rfl, W.gr g2, _, rfl, ?_⟩
      by_cases hco : c ∈ ord
      · obtain ⟨lw0, lwf, lwd, lwi⟩ := law2 hco
        rw [decide_eq_true hco]
        refine iteT ?_
        refine ⟨_, rfl, _, _, rfl, rfl, _, rfl, ?_⟩
        by_cases hs0 : sr = 0
        · rw [decide_eq_false (by omega)]
          refine iteF ?_
          exact fin _ _ ⟨some c, rfl, Gx.refl, lw0 hs0⟩
        · rw [decide_eq_true (by omega)]
          refine iteT ?_
          -- refused = None; if len(inside) == count
          refine ⟨_, rfl, ti, _, rfl, .inr (SqT.of hti), _, rfl, rfl, _, rfl, ?_⟩
          have e : decide (V.int ((natV (inHd hd r)).length : Nat) = V.int (sr : Nat)) = decide ((inHd hd r).length = sr) := by
            rw [dec_int, natV_len]
            by_cases h : (inHd hd r).length = sr
            · rw [decide_eq_true h, h]; simp
            · rw [decide_eq_false h]
              have : ¬ (((inHd hd r).length : Int) = (sr : Int)) := by omega
              simp [this]
          rw [e]
          by_cases hls : (inHd hd r).length = sr
          · rw [decide_eq_true hls]
            refine iteT ?_
            -- refused = wish.worst(inside + (asker,))
            refine ⟨_, rfl, wr, dw1, _, rfl, Gr.ins g2 v1, wf_no _ _ (by decide +kernel) (by decide +kernel), ?_⟩
            refine ⟨_, rfl, _, rfl, (by show 1 ≤ sizeLine; decide), fun tj nj => ?_⟩
            have hlen1 : (inHd hd r).length ≤ 10 := Nat.le_trans (List.length_filter_le _ _) (by rw [List.length_range, M.l2]; exact M.wf.la)
            have wfin : ∀ (q : Addr) (H3 : Hp) (Q' : VK), Gr a H2 H3 → H3 q = some (.tup (natV (inHd hd r ++ [c]))) → (∀ (d : Nat) H', Gr a H2 H' → AskLaw L O S nx hd c n r (some d) → Q' (.int (d : Nat)) H') → spWorst a (V.ref wr :: ([V.ref q] ++ [])) H3 Q' E0 := by
              intro q H3 Q' g3 hq hQ
              refine ⟨wr, q, ord, inHd hd r ++ [c], rfl, (W.gr g2).gr g3, hq, by simp, lwi, by rw [List.length_append, List.length_singleton]; omega, (g01.trans (g2.trans g3)).tb tb, fun d H4 hd4 hm4 g4 => hQ d H4 (g3.trans g4) (lwd hls d hd4 hm4)⟩
            have hti2 := new_keep (o := .tup [V.int (c : Nat)]) hti nj
            refine ⟨ti, tj, natV (inHd hd r), [V.int (c : Nat)], rfl, rfl, SqT.of hti2, SqT.of upd_same, ?_, fun e => ?_, (fun _ z => by cases z), fun hne _ p np => ?_⟩
            · rw [natV_len]
              have : sizeLine = 16777216 := sizeLine_eq
              show (inHd hd r).length + 1 ≤ _
              omega
            · have eo : inHd hd r = [] := by simpa [natV] using e
              have e3 : upd H2 tj (.tup [V.int (c : Nat)]) tj = some (.tup (natV (inHd hd r ++ [c]))) := by rw [upd_same, eo]; rfl
              dsimp only [tNil]
              refine wfin tj _ _ (Gx.new nj) e3 fun d H4 g4 al => ?_
              exact fin _ _ ⟨some d, rfl, g4, al⟩
            · dsimp only [tNil]
              refine wfin p _ _ ((Gx.new nj).trans (Gx.new np)) (by rw [upd_same, ← natV_snoc]) fun d H4 g4 al => ?_
              exact fin _ _ ⟨some d, rfl, g4, al⟩
          · rw [decide_eq_false hls]
            refine iteF ?_
            exact fin _ _ ⟨none, rfl, Gx.refl, lwf hls⟩
      · rw [decide_eq_false hco]
        refine iteF ?_
        refine iteF ?_
        exact fin _ _ ⟨some c, rfl, Gx.refl, law1 hco⟩
end
end K6

/-! ## KAsk4 -/
set_option maxRecDepth 100000
set_option maxHeartbeats 4000000
/-! Asking.go_on, ask_all. -/
namespace K6
open PySem PySem.Spec PyProof.Rows L2
def waits (L : List (List Nat)) (nx : List Nat) (hd : List (Option Nat)) : List Nat := (List.range L.length).filter (wantsB L nx hd)
def spAGo (a : Ad) : Sp := fun vs H Q _ => ∃ (H0 : Hp) (k m ln lh ls : Addr) (L O : List (List Nat)) (S nx : List Nat) (hd : List (Option Nat)) (ts : Nat → Nat) (T : Nat), vs = [.ref k] ∧ AskAt a H0 H k m ln lh ls L O S nx hd ∧
  DA.Inv (dm L O S) (ds nx hd) ts T ∧ Tb a H0 ∧
  ∀ t H' nx' hd', Gr a H0 H' → H' t = some (.tup (optL hd')) → hd'.length = L.length → DA.Final (dm L O S) (ds nx' hd') → Q (.ref t) H'
theorem WF.good {L O : List (List Nat)} {S : List Nat} (wf : WF L O S) : DA.Good (dm L O S) := by
  refine ⟨fun x => ?_, fun r => ?_⟩
  · show (L.getD x []).Nodup
    rw [List.getD_eq_getElem?_getD]
    cases e : L[x]? with
    | none => exact List.nodup_nil
    | some l => exact (wf.li l (List.mem_of_getElem? e)).1
  · show (O.getD r []).Nodup
    rw [List.getD_eq_getElem?_getD]
    cases e : O[r]? with
    | none => exact List.nodup_nil
    | some l => exact (wf.or l (List.mem_of_getElem? e)).1
section
variable {P : Program} {w : World} {K : PySem.W.Frag} {mg : Str → Option Value} {base : Heap} {a : Ad}
theorem waits_comp {H0 H1 : Hp} {k m ln lh ls : Addr} {L O : List (List Nat)} {S nx : List Nat} {hd : List (Option Nat)} {v1 v2 : Option V} {Q : VK} (T : Txt K mg base a) (M : AskAt a H0 H1 k m ln lh ls L O S nx hd)
    (k2 : ∀ D H2, Gr a H1 H2 → H1 D = none → H2 D = some (.lst (natV (waits L nx hd))) → Q (.ref D) H2) :
    tLc (iRng1 (tCons (tMeth a.cM "size" (spMSize a) [] E0 (tFld K (tVar 0) "market") tNil) tNil)) (gName 2) (tB (tMeth a.cA "wants" (spAWants a) [] E0 (tVar 0) (tCons (tVar 2) tNil))) (tVar 2) [2] [some (V.ref k), v1, v2] H1 Q := by
  obtain ⟨dx, hk⟩ := M.ins
  obtain ⟨dm', la, lr, ts, as, rs, h1, h2, h3, h4, h5, h6⟩ := M.mt.gr M.g
  refine ⟨_, rfl, k, a.cA, dx, _, _, rfl, hk, T.cl_A, T.n_A_market, af_market _ _ _ _, m, dm', _, rfl, h1, mf_no _ _ _ (by decide +kernel) (by decide +kernel) (by decide +kernel), m, L, O, S, rfl, M.mt.gr M.g, (L.length : Int), rfl, by have := M.wf.la; omega, by have := M.wf.la; omega, ?_⟩
  rw [Int.toNat_natCast]
  intro D nD
  refine lc_it walk_range0 (fun i H' => Gr a H1 H' ∧ H' D = some (.lst (natV ((List.range i).filter (wantsB L nx hd))))) ⟨Gx.new nD, upd_same⟩ (fun _ _ _ _ => trivial) ?_ ?_
  · rintro i x H2 H3 hi ⟨g, hD⟩ ⟨rfl, rfl⟩
    have M3 : AskAt a H0 H3 k m ln lh ls L O S nx hd := ⟨M.g.trans g, M.mt, M.wf, M.n0, M.n1, M.n2, M.n3, ⟨dx, Gr.ins g hk⟩, Gr.lst g M.hn, Gr.lst g M.hh, M.hs.imp fun st h => ⟨Gr.lst g h.1, h.2⟩, M.d1, M.d2, M.d3, M.l1, M.l2⟩
    refine ⟨rfl, _, rfl, k, dx, _, rfl, Gr.ins g hk, af_no _ _ _ _ (by decide +kernel) (by decide +kernel) (by decide +kernel) (by decide +kernel), _, rfl, H0, k, m, ln, lh, ls, L, O, S, nx, hd, i, rfl, M3, hi, _, rfl, ?_⟩
    rw [List.range_succ, List.filter_append]
    by_cases h : wantsB L nx hd i = true
    · rw [h]
      refine iteT ?_
      have e : [i].filter (wantsB L nx hd) = [i] := List.filter_cons_of_pos h
      refine ⟨_, rfl, _, hD, sz1000 (by rw [natV_len]; exact Nat.le_trans (List.length_filter_le _ _) (by rw [List.length_range]; have := M.wf.la; omega)), Gx.app g nD hD rfl, ?_⟩
      rw [upd_same, natV_snoc, e]
    · have h' : wantsB L nx hd i = false := by simpa using h
      rw [h']
      have e : [i].filter (wantsB L nx hd) = [] := List.filter_cons_of_neg h
      refine iteF ⟨g, ?_⟩
      rw [e, List.append_nil]
      exact hD
  · rintro H2 ⟨g, hD⟩
    exact k2 D H2 g nD hD
theorem AskAt.gr {H0 H1 H2 : Hp} {k m ln lh ls : Addr} {L O : List (List Nat)} {S nx : List Nat} {hd : List (Option Nat)} (M : AskAt a H0 H1 k m ln lh ls L O S nx hd) (g : Gr a H1 H2) : AskAt a H0 H2 k m ln lh ls L O S nx hd :=
  ⟨M.g.trans g, M.mt, M.wf, M.n0, M.n1, M.n2, M.n3, M.ins.imp fun _ h => Gr.ins g h, Gr.lst g M.hn, Gr.lst g M.hh, M.hs.imp fun st h => ⟨Gr.lst g h.1, h.2⟩, M.d1, M.d2, M.d3, M.l1, M.l2⟩
theorem sc_A_go_on : FnScope ["self", "waiting", "asker"] ["self"] (defScope s_A_go_on) := ⟨rfl, rfl, rfl, by decide +kernel, rfl, by decide +kernel, by decide +kernel⟩
theorem ok_A_go_on (T : Txt K mg base a) : FnOk P w K mg base CX0 5 a.f_A_go_on a.d_A_go_on ["self"] (spAGo a) := by
  have GS : FnOk P w K mg base CX0 1 a.f_M_size a.d_M_size ["self"] (spMSize a) := ok_M_size T
  have GW : FnOk P w K mg base CX0 1 a.f_A_wants a.d_A_wants ["self", "asker"] (spAWants a) := ok_A_wants T
  have GA : FnOk P w K mg base CX0 4 a.f_A_ask a.d_A_ask ["self", "asker"] (spAAsk a) := ok_A_ask T
  refine T.F_A_go_on.ok sc_A_go_on (fun vs H Q E h => ?_) (fun cdv A outer s H vs Q E hr h => ?_)
  · obtain ⟨H0, k, m, ln, lh, ls, L, O, S, nx, hd, ts, T, rfl, _⟩ := h
    rfl
  · obtain ⟨H0, k, m, ln, lh, ls, L, O, S, nx, hd, tm, Tm, rfl, M, I, tb, kk⟩ := h
    have nd := sc_A_go_on.nd
    have hr1 : Room 1 _ := hr.mono (by decide)
    refine ⟨_, pss_cons (ps_setLc (i := 1) (own := [("asker", 2)]) (g := gName 2) rfl nd rfl rfl (sw_true rfl rfl rfl (by decide +kernel)) (pi_range1 (by rfl) T.z_range (pa_cons (pe_meth0 (pe_fld (pv 0) rfl) T.cl_M T.m_M_size GS hr1 T.b_M_size .nil pass0) pa_nil))
          (blkOk_by (N := ["self", "waiting", "asker"]) (sc := defScope s_A_go_on) (by decide +kernel))
          (fun _ _ _ _ _ => pg_name (i := 2) nd rfl (Or.inl rfl)) (fun _ _ _ _ _ => pts_one (pt_val (pe_meth (pv 0) T.cl_A T.m_A_wants GW hr1 T.b_A_wants .nil pass0 (pa_cons (pv 2) pa_nil)))) (fun _ _ _ _ _ => pv 2))
      (pss_cons (ps_while PassesOwn.never (pt_cmpR (op_neD hr.units) (pv 1) (pe_lst pa_nil) (nomark _))
        (pss_cons (ps_expr (pe_meth (pv 0) T.cl_A T.m_A_ask GA hr T.b_A_ask .nil pass0 (pa_cons (pe_ix ix_list (pv 1) pe_int (fun _ _ => rfl)) pa_nil)))
        (pss_one (ps_setLc (i := 1) (own := [("asker", 2)]) (g := gName 2) rfl nd rfl rfl (sw_true rfl rfl rfl (by decide +kernel)) (pi_range1 (by rfl) T.z_range (pa_cons (pe_meth0 (pe_fld (pv 0) rfl) T.cl_M T.m_M_size GS hr1 T.b_M_size .nil pass0) pa_nil))
          (blkOk_by (N := ["self", "waiting", "asker"]) (sc := defScope s_A_go_on) (by decide +kernel))
          (fun _ _ _ _ _ => pg_name (i := 2) nd rfl (Or.inl rfl)) (fun _ _ _ _ _ => pts_one (pt_val (pe_meth (pv 0) T.cl_A T.m_A_wants GW hr1 T.b_A_wants .nil pass0 (pa_cons (pv 2) pa_nil)))) (fun _ _ _ _ _ => pv 2)))))
      (pss_one (ps_ret (pe_callTy (call_tupleS a) (by rfl) T.z_tuple bt_tuple (pa_cons (pe_fld (pv 0) rfl) pa_nil))))), ?_⟩
    dsimp only [tNext, tSeq, tAsg]
    refine waits_comp T M fun D1 H1 g1 nD1 hD1 => ?_
    refine ⟨fun q σ H' => ∃ (nx' : List Nat) (hd' : List (Option Nat)) (D : Addr) (v : Option V), σ = [some (.ref k), some (.ref D), v] ∧ q = 1001 - nx'.sum ∧ AskAt a H0 H' k m ln lh ls L O S nx' hd' ∧ (∃ ts T, DA.Inv (dm L O S) (ds nx' hd') ts T) ∧ H' D = some (.lst (natV (waits L nx' hd'))), ⟨_, nx, hd, D1, none, rfl, rfl, M.gr g1, ⟨_, _, I⟩, hD1⟩, ?_⟩
    rintro q σ H2 ⟨nx', hd', D, v, rfl, rfl, M2, ⟨ts2, T2, I2⟩, hD⟩
    refine ⟨_, rfl, Nat.zero_le _, fun e ne => ?_⟩
    refine ne_nilG (SqL.of (new_keep hD ne)) (dpN _) (SqL.of upd_same) ⟨_, rfl, ?_⟩
    have M3 := M2.gr (Gx.new (o := .lst []) ne)
    have hD3 := new_keep (o := .lst []) hD ne
    have hbs : nx'.sum ≤ 1000 := by
      have hb : nx'.sum ≤ 100 * nx'.length := sum_le fun i => by
        have h1 : (ds nx' hd').nx i ≤ (L.getD i []).length := I2.i0 i
        have h2 : (L.getD i []).length ≤ 100 := by
          rw [List.getD_eq_getElem?_getD]
          cases e : L[i]? with
          | none => exact Nat.zero_le _
          | some l' => exact (M.wf.li l' (List.mem_of_getElem? e)).2.2
        exact Nat.le_trans h1 h2
      have hb2 : nx'.length ≤ 10 := by rw [M2.l1]; exact M.wf.la
      omega
    generalize upd H2 e (.lst []) = H3 at *
    cases hwt : waits L nx' hd' with
    | nil =>
      refine iteF ?_
      obtain ⟨dx, hk⟩ := M3.ins
      refine ⟨_, rfl, k, a.cA, dx, _, _, rfl, hk, T.cl_A, T.n_A_held, af_held _ _ _ _, lh, _, rfl, .inl M3.hh, fun t H4 g4 ht => ?_⟩
      refine kk t H4 nx' hd' (M3.g.trans g4) ht M3.l2 ⟨⟨ts2, T2, I2⟩, fun x hx => ?_⟩
      show (L.getD x []).length ≤ nx'.getD x 0
      by_cases hxL : x < L.length
      · have : x ∉ waits L nx' hd' := by rw [hwt]; simp
        refine Nat.le_of_not_lt fun z => this ?_
        unfold waits
        rw [List.mem_filter, List.mem_range]
        refine ⟨hxL, ?_⟩
        unfold wantsB
        rw [Bool.and_eq_true, decide_eq_true_eq, decide_eq_true_eq]
        exact ⟨hx, z⟩
      · rw [List.getD_eq_getElem?_getD, List.getElem?_eq_none (by omega)]
        exact Nat.zero_le _
    | cons c rest =>
      refine iteT ?_
      have hmem : c ∈ waits L nx' hd' := by rw [hwt]; simp
      unfold waits at hmem
      rw [List.mem_filter, List.mem_range] at hmem
      obtain ⟨dx, hk⟩ := M3.ins
      have h0' : atI (natV (waits L nx' hd')) ((0 : Nat) : Int) = some (V.int (c : Nat)) := atI_nat (natV_at (by rw [hwt]; rfl))
      refine ⟨fun σ' H' => ∃ q', q' < 1001 - nx'.sum ∧ ∃ (nx'' : List Nat) (hd'' : List (Option Nat)) (D : Addr) (v : Option V), σ' = [some (.ref k), some (.ref D), v] ∧ q' = 1001 - nx''.sum ∧ AskAt a H0 H' k m ln lh ls L O S nx'' hd'' ∧ (∃ ts T, DA.Inv (dm L O S) (ds nx'' hd'') ts T) ∧ H' D = some (.lst (natV (waits L nx'' hd''))), fun _ _ h => h, ?_⟩
      refine ⟨_, rfl, k, dx, _, rfl, hk, af_no _ _ _ _ (by decide +kernel) (by decide +kernel) (by decide +kernel) (by decide +kernel), _, rfl, D, _, _, _, rfl, rfl, SqL.of hD3, h0', ?_⟩
      refine ⟨H0, k, m, ln, lh, ls, L, O, S, nx', hd', c, ts2, T2, rfl, M3, hmem.1, hmem.2, I2, tb, fun v4 H4 nx4 hd4 M4 e4 st4 => ?_⟩
      dsimp only [tAsg]
      refine waits_comp T M4 fun D5 H5 g5 nD5 hD5 => ?_
      refine ⟨_, ?_, nx4, hd4, D5, _, rfl, rfl, M4.gr g5, ?_, hD5⟩
      · obtain ⟨n, hn⟩ := get_lt (l := nx') (i := c) (by rw [M2.l1]; exact hmem.1)
        rw [e4, getD_of hn, sum_set hn]
        omega
      · have hcn : (ds nx' hd').hd c = none := by
          have := hmem.2
          unfold wantsB at this
          rw [Bool.and_eq_true, decide_eq_true_eq] at this
          exact this.1
        exact DA.step_keeps M.wf.good I2 hcn st4
def spAskAll (a : Ad) : Sp := fun vs H Q _ => ∃ (m : Addr) (L O : List (List Nat)) (S : List Nat), vs = [.ref m] ∧ MktAt a H m L O S ∧ WF L O S ∧ Tb a H ∧
  ∀ t H' nx' hd', Gr a H H' → H' t = some (.tup (optL hd')) → hd'.length = L.length → DA.Final (dm L O S) (ds nx' hd') → Q (.ref t) H'
theorem sc_g_ask_all : FnScope ["market"] ["market"] (defScope s_g_ask_all) := ⟨rfl, rfl, rfl, by decide +kernel, rfl, by decide +kernel, by decide +kernel⟩
theorem ds_start (n : Nat) : ds (List.replicate n 0) (List.replicate n none) = ⟨fun _ => 0, fun _ => none⟩ := by
  unfold ds
  congr 1
  · funext x
    rw [List.getD_eq_getElem?_getD, List.getElem?_replicate]
    split <;> rfl
  · funext x
    rw [List.getD_eq_getElem?_getD, List.getElem?_replicate]
    split <;> rfl
theorem ok_ask_all (T : Txt K mg base a) : FnOk P w K mg base CX0 6 a.f_g_ask_all a.d_g_ask_all ["market"] (spAskAll a) := by
  have GI : FnOk P w K mg base CX0 2 a.f_A_init a.d_A_init ["self", "market"] (spAInit a) := ok_A_init T
  have GG : FnOk P w K mg base CX0 5 a.f_A_go_on a.d_A_go_on ["self"] (spAGo a) := ok_A_go_on T
  refine T.F_g_ask_all.ok sc_g_ask_all (fun vs H Q E h => ?_) (fun cdv A outer s H vs Q E hr h => ?_)
  · obtain ⟨m, L, O, S, rfl, _⟩ := h
    rfl
  · obtain ⟨m, L, O, S, rfl, M, wf, tb, kk⟩ := h
    have hr3 : Room 3 _ := hr.mono (by decide)
    refine ⟨_, pss_one (ps_ret (pe_meth0 (pe_make T.mk_A GI hr3 (by rfl) T.gc_A T.b_A_init .nil pass0 (pa_cons (pv 0) pa_nil)) T.cl_A T.m_A_go_on GG hr T.b_A_go_on .nil pass0)), ?_⟩
    refine ⟨_, rfl, ?_⟩
    intro x dx nx ndx ne
    have g1 : Gr a H (upd (upd H dx (.own x)) x (.ins a.cA dx [])) := Gx.inst nx ndx ne
    refine ⟨H, x, dx, m, L, O, S, rfl, upd_same, nx, g1, M, wf, fun H2 ln lh ls M2 => ⟨rfl, ?_⟩⟩
    obtain ⟨dx2, hk2⟩ := M2.ins
    refine ⟨x, dx2, _, rfl, hk2, af_no _ _ _ _ (by decide +kernel) (by decide +kernel) (by decide +kernel) (by decide +kernel), H, x, m, ln, lh, ls, L, O, S, _, _, fun _ => 0, 1, rfl, M2, ?_, tb, fun t H3 nx' hd' g3 ht hl F => kk t H3 nx' hd' g3 ht hl F⟩
    · rw [ds_start]
      exact DA.Inv.start _
end
end K6

/-! ## KLie1 -/
set_option maxRecDepth 100000
set_option maxHeartbeats 4000000
/-! reached, best_lie. -/
namespace K6
open PySem PySem.Spec PyProof.Rows L2
/-- what a list told by c gets -/
def Rch (L O : List (List Nat)) (S : List Nat) (c : Nat) (g : Option Nat) : Prop :=
  ∃ (o : List Nat) (nx' : List Nat) (hd' : List (Option Nat)), (o.Nodup ∧ (∀ n, n ∈ o → n < O.length) ∧ o.length ≤ 100) ∧ hd'.length = L.length ∧ DA.Final (dm (L.set c o) O S) (ds nx' hd') ∧ g = hd'.getD c none
def spReached (a : Ad) : Sp := fun vs H Q _ => ∃ (m : Addr) (L O : List (List Nat)) (S : List Nat) (c : Nat), vs = [.ref m, .int (c : Nat)] ∧ MktAt a H m L O S ∧ WF L O S ∧ c < L.length ∧ Tb a H ∧
  ∀ t H' (ps : List Addr), Gr a H H' → H' t = some (.tup (ps.map V.ref)) → ps.length ≤ 100 → (∀ p, p ∈ ps → ∃ t' g, H' p = some (.tup [.ref t', optV g]) ∧ Rch L O S c g) → Q (.ref t) H'
section
variable {P : Program} {w : World} {K : PySem.W.Frag} {mg : Str → Option Value} {base : Heap} {a : Ad}
theorem sc_g_reached : FnScope ["market", "asker", "order"] ["market", "asker"] (defScope s_g_reached) := ⟨rfl, rfl, rfl, by decide +kernel, rfl, by decide +kernel, by decide +kernel⟩
theorem ok_reached (T : Txt K mg base a) : FnOk P w K mg base CX0 7 a.f_g_reached a.d_g_reached ["market", "asker"] (spReached a) := by
  have GA : FnOk P w K mg base CX0 6 a.f_g_ask_all a.d_g_ask_all ["market"] (spAskAll a) := ok_ask_all T
  have GW : FnOk P w K mg base CX0 5 a.f_M_with_list a.d_M_with_list ["self", "asker", "order"] (spWithList a) := ok_M_with_list T
  have GL : FnOk P w K mg base CX0 1 a.f_g_all_lists a.d_g_all_lists ["many"] (spAllLists a) := ok_all_lists T
  refine T.F_g_reached.ok sc_g_reached (fun vs H Q E h => ?_) (fun cdv A outer s H vs Q E hr h => ?_)
  · obtain ⟨m, L, O, S, c, rfl, _⟩ := h
    rfl
  · obtain ⟨m, L, O, S, c, rfl, M, wf, hc, tb, kk⟩ := h
    have nd := sc_g_reached.nd
    have hr1 : Room 1 _ := hr.mono (by decide)
    have hr5 : Room 5 _ := hr.mono (by decide)
    refine ⟨_, pss_one (ps_ret (pe_callTy (call_tupleS a) (by rfl) T.z_tuple bt_tuple (pa_cons
        (pe_lc (own := [("order", 2)]) (g := gName 2) (tt := tYes) (te := tTup (tCons (tVar 2) (tCons (tOp (rIxT K) (tCall (spAskAll a) [] E0 (tCons (tMeth a.cM "with_list" (spWithList a) [] E0 (tVar 0) (tCons (tVar 1) (tCons (tVar 2) tNil))) tNil)) (tVar 1)) tNil))) rfl nd
          (pi_tup (pe_call GL hr1 (by rfl) T.g_g_all_lists T.F_g_all_lists.kp T.b_g_all_lists .nil pass0 (pa_cons (pe_callB (r := rLenS K) call_lenS (by rfl) T.z_len bt_len (pa_cons (pe_fld (pv 0) rfl) pa_nil)) pa_nil)))
          (blkOk_by (N := ["market", "asker", "order"]) (sc := defScope s_g_reached) (by decide +kernel))
          (fun _ _ _ _ _ => pg_name (i := 2) nd rfl (Or.inl rfl)) (fun _ _ _ _ _ => pts_nil)
          (fun _ _ _ _ _ => pe_tup (pa_cons (pv 2) (pa_cons (pe_ix ix_tup (pe_call GA hr (by rfl) T.g_g_ask_all T.F_g_ask_all.kp T.b_g_ask_all .nil pass0 (pa_cons (pe_meth (pv 0) T.cl_M T.m_M_with_list GW hr5 T.b_M_with_list .nil pass0 (pa_cons (pv 1) (pa_cons (pv 2) pa_nil))) pa_nil)) (pv 1) (fun _ _ => rfl)) pa_nil)))) pa_nil))), ?_⟩
    obtain ⟨dx, la, lr, ts, as, rs, h1, h2, h3, h4, h5, h6⟩ := id M
    refine ⟨_, rfl, m, a.cM, dx, _, _, rfl, h1, T.cl_M, T.n_M_rooms, mf_rooms _ _ _, lr, _, rfl, .inl (SqL.of h3), ?_⟩
    have hrl : (rs.map V.ref).length = O.length := by rw [List.length_map]; exact h6.length
    refine ⟨O.length, by show [V.int ((rs.map V.ref).length : Nat)] ++ [] = _; rw [hrl]; rfl, wf.lo, tb, fun tl tls H1 g1 htl hlen hlt => ?_⟩
    refine ⟨tl, rfl, ⟨_, SqT.of htl⟩, fun D nD => ?_⟩
    refine lc_tup (K := K) (a := tl) (xs := tls.map V.ref) (fun i H' => ∃ ps : List Addr, Gr a H1 H' ∧ H' D = some (.lst (ps.map V.ref)) ∧ ps.length = i ∧ ∀ p, p ∈ ps → ∃ t' g, H' p = some (.tup [.ref t', optV g]) ∧ Rch L O S c g)
      ⟨[], Gx.new nD, upd_same, rfl, fun _ z => by cases z⟩ (fun i H' _ ⟨_, g, _⟩ => SqT.of (Gr.tup g htl)) ?_ ?_
    · rintro i x H' hx ⟨ps, g, hD, hpl, hps⟩
      obtain ⟨q, hq, rfl⟩ := map_get hx
      obtain ⟨o, ho, o1, o2, o3⟩ := hlt q (List.mem_of_getElem? hq)
      have hi : i < tls.length := (List.getElem?_eq_some_iff.mp hq).1
      have g1' := g1.trans g
      refine ⟨rfl, tYes_ok ?_⟩
      refine iteT ?_
      obtain ⟨dx', la', lr', ts', as', rs', q1, _⟩ := M.gr g1'
      refine ⟨_, rfl, _, rfl, m, dx', _, rfl, q1, mf_no _ _ _ (by decide +kernel) (by decide +kernel) (by decide +kernel), _, rfl, _, rfl, m, q, c, o, L, O, S, rfl, M.gr g1', wf, hc, Gr.tup g ho, ⟨o1, o2, o3⟩, g1'.tb tb, fun m2 H2 g2 M2 => ?_⟩
      refine ⟨m2, L.set c o, O, S, rfl, M2, wf.set ⟨o1, o2, o3⟩, (g1'.trans g2).tb tb, fun t3 H3 nx' hd' g3 ht3 hl3 F3 => ?_⟩
      rw [List.length_set] at hl3
      obtain ⟨ov, hov⟩ := get_lt (l := hd') (i := c) (by rw [hl3]; exact hc)
      refine ⟨_, rfl, t3, _, _, _, rfl, rfl, SqT.of ht3, atI_nat (optL_at hov), (by show 2 ≤ sizeLine; decide), fun T4 nT4 => ?_⟩
      have g23 := g2.trans g3
      have hD4 := new_keep (o := .tup [V.ref q, optV ov]) (Gr.lst g23 hD) nT4
      refine ⟨_, hD4, sz1000 (by rw [List.length_map]; omega), ps ++ [T4], Gx.app ((g.trans g23).trans (Gx.new nT4)) nD hD4 rfl, by rw [upd_same, List.map_append]; rfl, by rw [List.length_append, hpl]; rfl, fun p hp => ?_⟩
      rcases List.mem_append.mp hp with z | z
      · obtain ⟨t', g', e1, e2⟩ := hps p z
        exact ⟨t', g', upd_tup (new_keep (Gr.tup g23 e1) nT4) hD4, e2⟩
      · rw [List.mem_singleton.mp z]
        exact ⟨q, ov, upd_tup upd_same hD4, o, nx', hd', ⟨o1, o2, o3⟩, hl3, F3, (getD_of hov).symm⟩
    · rintro H2 ⟨ps, g, hD, hpl, hps⟩
      rw [List.length_map] at hpl
      refine ⟨D, _, rfl, .inl hD, fun t H3 g3 ht => kk t H3 ps ((g1.trans g).trans g3) ht (by omega) fun p hp => ?_⟩
      obtain ⟨t', g', e1, e2⟩ := hps p hp
      exact ⟨t', g', Gr.tup g3 e1, e2⟩
/-- what is got is liked, so in the list -/
theorem fin_mem {L O : List (List Nat)} {S nx : List Nat} {hd : List (Option Nat)} (F : DA.Final (dm L O S) (ds nx hd)) {c r : Nat} (h : hd.getD c none = some r) : r ∈ L.getD c [] := by
  obtain ⟨ts, T, I⟩ := F.inv
  exact (I.i1 c r h).1.1
def rkO (o : List Nat) : Option Nat → Nat
  | none => o.length
  | some n => o.idxOf n
theorem rk_dm {L O : List (List Nat)} {S : List Nat} {c : Nat} (x : Option Nat) : DA.rk (dm L O S) c x = rkO (L.getD c []) x := by cases x <;> rfl
theorem better_rk {o : List Nat} {g t : Option Nat} (ht : ∀ r, t = some r → r ∈ o) (h : betterB o g t = true) :
    rkO o g < rkO o t := by
  unfold betterB rkV at h
  cases t with
  | none =>
    cases g with
    | none => simp at h
    | some n =>
      by_cases hn : n ∈ o
      · exact DA.idx_lt hn
      · simp [hn] at h
  | some r =>
    have hr := ht r rfl
    cases g with
    | none => simpa [hr, rkO] using h
    | some n =>
      by_cases hn : n ∈ o
      · simpa [hn, hr, rkO] using h
      · simp [hn] at h
theorem pref_ne {L : List (List Nat)} {x : Nat} (h : L.getD x [] ≠ []) : x ∈ List.range L.length := by
  rw [List.mem_range]
  refine Nat.lt_of_not_le fun z => h ?_
  rw [List.getD_eq_getElem?_getD, List.getElem?_eq_none z]
  rfl
/-- no list of c's own gets c more -/
theorem rch_law {L O : List (List Nat)} {S nx : List Nat} {hd : List (Option Nat)} {c : Nat} {g : Option Nat} (wf : WF L O S) (F : DA.Final (dm L O S) (ds nx hd)) (h : Rch L O S c g) : betterB (L.getD c []) g (hd.getD c none) = false := by
  obtain ⟨o, nx', hd', ho, hl, F', rfl⟩ := h
  cases e : betterB (L.getD c []) (hd'.getD c none) (hd.getD c none) with
  | false => rfl
  | true =>
    have lt := better_rk (fun r hr => fin_mem F hr) e
    have := DA.no_lie wf.good F F'.stable rfl rfl (List.range L.length) List.nodup_range (fun x hx => pref_ne hx) (fun x hx => ?_) c
    · exact absurd (show DA.rk (dm L O S) c ((ds nx' hd').hd c) < DA.rk (dm L O S) c ((ds nx hd).hd c) from by
        rw [rk_dm, rk_dm]; exact lt) this
    · show (L.set c o).getD x [] = L.getD x []
      by_cases hxc : x = c
      · subst hxc
        refine absurd ?_ hx
        rw [rk_dm, rk_dm]; exact lt
      · rw [List.getD_eq_getElem?_getD, List.getElem?_set_ne (Ne.symm hxc)]
        exact (List.getD_eq_getElem?_getD ..).symm
def spBestLie (a : Ad) : Sp := fun vs H Q _ => ∃ (m : Addr) (L O : List (List Nat)) (S : List Nat) (c : Nat), vs = [.ref m, .int (c : Nat)] ∧ MktAt a H m L O S ∧ WF L O S ∧ c < L.length ∧ Tb a H ∧ ∀ H', Gr a H H' → Q .non H'
theorem sc_g_best_lie : FnScope ["market", "asker", "wish", "truth", "good", "pair"] ["market", "asker"] (defScope s_g_best_lie) := ⟨rfl, rfl, rfl, by decide +kernel, rfl, by decide +kernel, by decide +kernel⟩
theorem ok_best_lie (T : Txt K mg base a) : FnOk P w K mg base CX0 8 a.f_g_best_lie a.d_g_best_lie ["market", "asker"] (spBestLie a) := by
  have GA : FnOk P w K mg base CX0 6 a.f_g_ask_all a.d_g_ask_all ["market"] (spAskAll a) := ok_ask_all T
  have GR : FnOk P w K mg base CX0 7 a.f_g_reached a.d_g_reached ["market", "asker"] (spReached a) := ok_reached T
  have GB : FnOk P w K mg base CX0 2 a.f_W_better a.d_W_better ["self", "one", "other"] (spBetter a) := ok_W_better T
  refine T.F_g_best_lie.ok sc_g_best_lie (fun vs H Q E h => ?_) (fun cdv A outer s H vs Q E hr h => ?_)
  · obtain ⟨m, L, O, S, c, rfl, _⟩ := h
    rfl
  · obtain ⟨m, L, O, S, c, rfl, M, wf, hc, tb, kk⟩ := h
    have nd := sc_g_best_lie.nd
    have hr2 : Room 2 _ := hr.mono (by decide)
    have hr6 : Room 6 _ := hr.mono (by decide)
    refine ⟨_, pss_cons (ps_set (i := 2) nd rfl (by first | exact Or.inl rfl | exact Or.inr rfl) (pe_ix ix_list (pe_fld (pv 0) rfl) (pv 1) (fun _ _ => rfl)))
      (pss_cons (ps_set (i := 3) nd rfl (by first | exact Or.inl rfl | exact Or.inr rfl) (pe_ix ix_tup (pe_call GA hr6 (by rfl) T.g_g_ask_all T.F_g_ask_all.kp T.b_g_ask_all .nil pass0 (pa_cons (pv 0) pa_nil)) (pv 1) (fun _ _ => rfl)))
      (pss_cons (ps_setLc (i := 4) (own := [("pair", 5)]) (g := gName 5) (te := tVar 5) rfl nd rfl rfl (sw_true rfl rfl rfl (by decide +kernel)) (pi_tup (pe_call GR hr (by rfl) T.g_g_reached T.F_g_reached.kp T.b_g_reached .nil pass0 (pa_cons (pv 0) (pa_cons (pv 1) pa_nil))))
          (blkOk_by (N := ["market", "asker", "wish", "truth", "good", "pair"]) (sc := defScope s_g_best_lie) (by decide +kernel))
          (fun _ _ _ _ _ => pg_name (i := 5) nd rfl (Or.inl rfl)) (fun _ _ _ _ _ => pts_one (pt_val (pe_meth (t := tCons (tOp (rIxT K) (tVar 5) (tC (V.int 1))) (tCons (tVar 3) tNil)) (pv 2) T.cl_W T.m_W_better GB hr2 T.b_W_better .nil pass0 (pa_cons (pe_ix ix_tup (pv 5) pe_int (fun _ _ => rfl)) (pa_cons (pv 3) pa_nil))))) (fun _ _ _ _ _ => pv 5))
      (pss_one (ps_ret (pe_ifExp (pt_cmpR (op_eqD hr.units) (pv 4) (pe_lst pa_nil) (nomark _)) pe_non (pe_ix ix_list (pv 4) pe_int (fun _ _ => rfl))))))), ?_⟩
    obtain ⟨dx, la, lr, ts, as, rs, h1, h2, h3, h4, h5, h6⟩ := id M
    obtain ⟨l, hl⟩ := get_lt (l := L) (i := c) hc
    obtain ⟨wp, hwp, W⟩ := paired_get h5 hl
    dsimp only [tNext, tSeq, tAsg]
    refine ⟨_, rfl, m, a.cM, dx, _, _, rfl, h1, T.cl_M, T.n_M_askers, mf_askers _ _ _, _, rfl, la, _, _, _, rfl, rfl, SqL.of h2, atI_nat (ref_at hwp), ?_⟩
    refine ⟨_, rfl, m, L, O, S, rfl, M, wf, tb, fun t1 H1 nx1 hd1 g1 ht1 hl1 F1 => ?_⟩
    obtain ⟨ov, hov⟩ := get_lt (l := hd1) (i := c) (by rw [hl1]; exact hc)
    refine ⟨_, rfl, t1, _, _, _, rfl, rfl, SqT.of ht1, atI_nat (optL_at hov), ?_⟩
    dsimp only [gName]
    refine ⟨_, rfl, _, rfl, m, L, O, S, c, rfl, M.gr g1, wf, hc, g1.tb tb, fun t2 H2 ps g2 ht2 hpl hps => ?_⟩
    refine ⟨t2, rfl, ⟨_, SqT.of ht2⟩, fun D nD => ?_⟩
    refine lc_tup (K := K) (a := t2) (xs := ps.map V.ref) (fun i H' => Gr a H2 H' ∧ H' D = some (.lst [])) ⟨Gx.new nD, upd_same⟩ (fun i H' _ ⟨g, _⟩ => SqT.of (Gr.tup g ht2)) ?_ ?_
    · rintro i x H' hx ⟨g, hD⟩
      obtain ⟨q, hq, rfl⟩ := map_get hx
      obtain ⟨t', gg, e1, e2⟩ := hps q (List.mem_of_getElem? hq)
      have W' := ((W.gr g1).gr g2).gr g
      obtain ⟨dw, tw, dd, w1, w2, w3⟩ := id W'
      refine ⟨rfl, ?_⟩
      have h1' : atI [V.ref t', optV gg] ((1 : Nat) : Int) = some (optV gg) := atI_nat rfl
      refine ⟨_, rfl, wp, dw, _, rfl, w1, wf_no _ _ (by decide +kernel) (by decide +kernel), _, rfl, q, _, _, _, rfl, rfl, SqT.of (Gr.tup g e1), h1', _, rfl, wp, l, gg, ov, rfl, W', _, rfl, ?_⟩
      have e : betterB l gg ov = false := by
        have := rch_law wf F1 e2
        rw [getD_of hl, getD_of hov] at this
        exact this
      rw [e]
      exact iteF ⟨g, hD⟩
    · rintro H3 ⟨g, hD⟩
      refine ⟨_, rfl, Nat.zero_le _, fun e ne => ?_⟩
      refine eq_nilG (SqL.of (new_keep hD ne)) ⟨[], .nil, rfl, fun _ z => by cases z⟩ (SqL.of upd_same) ⟨_, rfl, ?_⟩
      rw [decide_eq_true rfl]
      refine iteT ?_
      exact kk _ ((g1.trans (g2.trans g)).trans (Gx.new ne))
end
end K6

/-! ## KLie2 -/
set_option maxRecDepth 100000
set_option maxHeartbeats 4000000
/-! lists_of_lot, lot_lie. -/
namespace K6
open PySem PySem.Spec PyProof.Rows L2
/-- a row of lists for the first i of a lot -/
def RowAt (m i : Nat) (H : Hp) (p : Addr) : Prop := ∃ qs : List Addr, H p = some (.tup (qs.map V.ref)) ∧ qs.length = i ∧ ∀ q, q ∈ qs → LT m 100 H q
theorem RowAt.gr {a : Ad} {m i : Nat} {H H' : Hp} {p : Addr} (g : Gr a H H') (h : RowAt m i H p) : RowAt m i H' p := let ⟨qs, e, l, r⟩ := h; ⟨qs, Gr.tup g e, l, fun q hq => (r q hq).gr g⟩
theorem RowAt.updL {m i : Nat} {H : Hp} {p D : Addr} {acc : List V} {o : HO} (h : RowAt m i H p) (hD : H D = some (.lst acc)) : RowAt m i (upd H D o) p := let ⟨qs, e, l, r⟩ := h; ⟨qs, upd_tup e hD, l, fun q hq => (r q hq).updL hD⟩
theorem sz1000' {n : Nat} (h : n ≤ 100000) : n < sizeLine := by
  have : sizeLine = 16777216 := sizeLine_eq
  omega
def spLol (a : Ad) : Sp := fun vs H Q _ => ∃ (m ll : Addr) (lot : List Nat) (L O : List (List Nat)) (S : List Nat), vs = [.ref m, .ref ll] ∧ H ll = some (.lst (natV lot)) ∧ lot.length ≤ 2 ∧ MktAt a H m L O S ∧ WF L O S ∧ Tb a H ∧
  ∀ D H' (fs : List Addr), Gr a H H' → H' D = some (.lst (fs.map V.ref)) → (∀ p, p ∈ fs → RowAt O.length lot.length H' p) → Q (.ref D) H'
section
variable {P : Program} {w : World} {K : PySem.W.Frag} {mg : Str → Option Value} {base : Heap} {a : Ad}
theorem sc_g_lol : FnScope ["market", "lot", "found", "asker", "row", "order"] ["market", "lot"] (defScope s_g_lists_of_lot) := ⟨rfl, rfl, rfl, by decide +kernel, rfl, by decide +kernel, by decide +kernel⟩
theorem ok_lists_of_lot (T : Txt K mg base a) : FnOk P w K mg base CX0 2 a.f_g_lists_of_lot a.d_g_lists_of_lot ["market", "lot"] (spLol a) := by
  have GL : FnOk P w K mg base CX0 1 a.f_g_all_lists a.d_g_all_lists ["many"] (spAllLists a) := ok_all_lists T
  refine T.F_g_lists_of_lot.ok sc_g_lol (fun vs H Q E h => ?_) (fun cdv A outer s H vs Q E hr h => ?_)
  · obtain ⟨m, ll, lot, L, O, S, rfl, _⟩ := h
    rfl
  · obtain ⟨m, ll, lot, L, O, S, rfl, hll, hlot, M, wf, tb, kk⟩ := h
    have nd := sc_g_lol.nd
    refine ⟨_, pss_cons (ps_if (PW.pt (pw_or (pt_cmpR op_gt (pe_callB call_lenS (by rfl) T.z_len bt_len (pa_cons (pv 1) pa_nil)) pe_int (nomark _)) (pw_or1 (pt_cmpR op_gt (pe_callB call_lenS (by rfl) T.z_len bt_len (pa_cons (pe_fld (pv 0) rfl) pa_nil)) pe_int (nomark _))))) pss_never pss_nil)
      (pss_cons (ps_set (i := 2) nd rfl (by first | exact Or.inl rfl | exact Or.inr rfl) (pe_lst (pa_cons (pe_tup pa_nil) pa_nil)))
      (pss_cons (ps_for PassesOwn.never rfl (pi_list (pv 1)) (pg_name (i := 3) nd rfl (Or.inl rfl))
        (pss_one (ps_setLc2 (i := 2) (own := [("row", 4), ("order", 5)]) (vs1 := [5]) (g := gName 4) (tt := tYes) (g1 := gName 5) (tt1 := tYes) (wi1 := iTup K (tCall (spAllLists a) [] E0 (tCons (tCB (rLenS K) (tCons (tFld K (tVar 0) "rooms") tNil)) tNil))) rfl nd rfl rfl (sw_true rfl rfl rfl (by decide +kernel)) (pi_list (pv 2))
            (blkOk_by (N := ["market", "lot", "found", "asker", "row", "order"]) (sc := defScope s_g_lists_of_lot) (by decide +kernel)) (by decide)
            (fun _ _ _ _ _ => pg_name (i := 4) nd rfl (Or.inl rfl)) (fun _ _ _ _ _ => pts_nil)
            (fun _ _ _ _ _ => pi_tup (pe_call GL hr (by rfl) T.g_g_all_lists T.F_g_all_lists.kp T.b_g_all_lists .nil pass0 (pa_cons (pe_callB (r := rLenS K) call_lenS (by rfl) T.z_len bt_len (pa_cons (pe_fld (pv 0) rfl) pa_nil)) pa_nil))) (fun _ _ _ _ _ => pg_name (i := 5) nd rfl (Or.inl rfl))
            (fun _ _ _ _ _ => pts_nil) (fun _ _ _ _ _ => pe_op (r := rCatA K) op_catA (pv 4) (pe_tup (pa_cons (pv 5) pa_nil))))))
      (pss_one (ps_ret (pv 2))))), ?_⟩
    obtain ⟨dx, la, lr, ts, as, rs, h1, h2, h3, h4, h5, h6⟩ := id M
    have hrl : (rs.map V.ref).length = O.length := by rw [List.length_map]; exact h6.length
    refine ⟨_, rfl, ll, _, rfl, .inl (SqL.of hll), _, _, rfl, rfl, _, rfl, ?_⟩
    rw [show decide ((2 : Int) < ((natV lot).length : Int)) = false from decide_eq_false (by rw [natV_len]; omega)]
    refine iteF ?_
    refine ⟨_, rfl, m, a.cM, dx, _, _, rfl, h1, T.cl_M, T.n_M_rooms, mf_rooms _ _ _, lr, _, rfl, .inl (SqL.of h3), _, _, rfl, rfl, _, rfl, ?_⟩
    rw [show decide ((3 : Int) < ((rs.map V.ref).length : Int)) = false from decide_eq_false (by rw [hrl]; have := wf.lo; omega)]
    refine iteF ?_
    -- found = [()]
    refine ⟨Nat.zero_le _, fun t1 n1 => ⟨by show 1 ≤ sizeLine; decide, fun lf nf => ?_⟩⟩
    have g1 : Gr a H (upd (upd H t1 (.tup [])) lf (.lst [V.ref t1])) := (Gx.new n1).trans (Gx.new nf)
    refine ⟨_, rfl, ll, rfl, ⟨_, SqL.of (Gr.lst g1 hll)⟩, ?_⟩
    refine for_list (K := K) (a := ll) (xs := natV lot) (fun i σ H' => ∃ (D : Addr) (fs : List Addr) (v : Option V), σ = [some (.ref m), some (.ref ll), some (.ref D), v, none, none] ∧ Gr a H H' ∧ H' D = some (.lst (fs.map V.ref)) ∧ fs.length ≤ 100 ^ i ∧ ∀ p, p ∈ fs → RowAt O.length i H' p) ?_ (fun i σ H' _ ⟨_, _, _, _, g, _⟩ => SqL.of (Gr.lst g hll)) ?_ ?_
    · refine ⟨lf, [t1], none, rfl, g1, upd_same, Nat.le_refl _, fun p hp => ?_⟩
      rw [List.mem_singleton.mp hp]
      exact ⟨[], new_keep upd_same nf, rfl, fun _ z => by cases z⟩
    · rintro i x σ H1 hx ⟨D0, fs, v, rfl, g, hD0, hfl, hfs⟩
      obtain ⟨c, hc, rfl⟩ := natV_get hx
      have hi : i < 2 := Nat.lt_of_lt_of_le (List.getElem?_eq_some_iff.mp hc).1 hlot
      have hfl2 : fs.length ≤ 100 := Nat.le_trans hfl (by have : i = 0 ∨ i = 1 := by omega
                                                          rcases this with rfl | rfl <;> decide)
      refine ⟨_, rfl, D0, rfl, ⟨_, SqL.of hD0⟩, fun D nD => ?_⟩
      refine walk_go (walk_list (K := K) (a := D0) (xs := fs.map V.ref)) (fun j H2 => ∃ ds : List Addr, Gr a H1 H2 ∧ H2 D = some (.lst (ds.map V.ref)) ∧ (∀ p, p ∈ ds → RowAt O.length (i + 1) H2 p) ∧ ds.length ≤ 100 * j)
        ⟨[], Gx.new nD, upd_same, (fun _ z => by cases z), Nat.zero_le _⟩ (fun j H2 _ ⟨_, g2, _⟩ => SqL.of (Gr.lst g2 hD0)) ?_ ?_
      · rintro j x H2 H3 hj ⟨ds, g2, hD, hds, hdl⟩ ⟨rfl, hx⟩
        rw [List.length_map] at hj
        obtain ⟨q, hq, rfl⟩ := map_get hx
        obtain ⟨qs, hqs, ql, qr⟩ := hfs q (List.mem_of_getElem? hq)
        have M3 := M.gr (g.trans g2)
        obtain ⟨dx3, la3, lr3, ts3, as3, rs3, p1, p2, p3, p4, p5, p6⟩ := id M3
        have hrl3 : (rs3.map V.ref).length = O.length := by rw [List.length_map]; exact p6.length
        refine ⟨rfl, tYes_ok ?_⟩
        refine iteT ?_
        refine ⟨_, rfl, m, a.cM, dx3, _, _, rfl, p1, T.cl_M, T.n_M_rooms, mf_rooms _ _ _, lr3, _, rfl, .inl (SqL.of p3), ?_⟩
        refine ⟨O.length, by show [V.int ((rs3.map V.ref).length : Nat)] ++ [] = _; rw [hrl3]; rfl, wf.lo, (g.trans g2).tb tb, fun tl tls H4 g4 htl hlen hlt => ?_⟩
        refine ⟨tl, rfl, ⟨_, SqT.of htl⟩, ?_⟩
        refine walk_go (walk_tup (K := K) (a := tl) (xs := tls.map V.ref)) (fun l H5 => ∃ ds : List Addr, Gr a H1 H5 ∧ (H5 tl = some (.tup (tls.map V.ref)) ∧ ∀ p, p ∈ tls → LT O.length 100 H5 p) ∧ H5 D = some (.lst (ds.map V.ref)) ∧ (∀ p, p ∈ ds → RowAt O.length (i + 1) H5 p) ∧ ds.length ≤ 100 * j + l)
          ⟨ds, g2.trans g4, ⟨htl, hlt⟩, Gr.lst g4 hD, fun p hp => (hds p hp).gr g4, by omega⟩ (fun l H5 _ ⟨_, _, g5, _⟩ => SqT.of g5.1) ?_ ?_
        · rintro l x H5 H6 hl ⟨es, g5, g45, hD5, hes, hel⟩ ⟨rfl, hx⟩
          rw [List.length_map] at hl
          obtain ⟨q2, hq2, rfl⟩ := map_get hx
          have lt2 := g45.2 q2 (List.mem_of_getElem? hq2)
          have hqs5 : H6 q = some (.tup (qs.map V.ref)) := Gr.tup g5 hqs
          refine ⟨rfl, tYes_ok ?_⟩
          refine iteT ?_
          refine ⟨_, rfl, _, rfl, by show 1 ≤ sizeLine; decide, fun t3 n3 => ?_⟩
          have hqs6 := new_keep (o := .tup [V.ref q2]) hqs5 n3
          have fin : ∀ (p : Addr) (H7 : Hp), Gr a H6 H7 → H7 D = some (.lst (es.map V.ref)) → H7 p = some (.tup ((qs ++ [q2]).map V.ref)) →
              ∃ acc, H7 D = some (.lst acc) ∧ acc.length < sizeLine ∧ ∃ ds : List Addr, Gr a H1 (upd H7 D (.lst (acc ++ [V.ref p]))) ∧ (upd H7 D (.lst (acc ++ [V.ref p])) tl = some (.tup (tls.map V.ref)) ∧ ∀ p', p' ∈ tls → LT O.length 100 (upd H7 D (.lst (acc ++ [V.ref p]))) p') ∧ upd H7 D (.lst (acc ++ [V.ref p])) D = some (.lst (ds.map V.ref)) ∧ (∀ p', p' ∈ ds → RowAt O.length (i + 1) (upd H7 D (.lst (acc ++ [V.ref p]))) p') ∧ ds.length ≤ 100 * j + (l + 1) := by
            intro p H7 g7 hD7 hp7
            refine ⟨_, hD7, sz1000' ?_, es ++ [p], Gx.app (g5.trans g7) nD hD7 rfl, ⟨upd_tup (Gr.tup g7 g45.1) hD7, fun p' hp' => ((g45.2 p' hp').gr g7).updL hD7⟩, by rw [upd_same, List.map_append]; rfl, fun p' hp' => ?_, by rw [List.length_append, List.length_singleton]; omega⟩
            · rw [List.length_map]; omega
            · rcases List.mem_append.mp hp' with z | z
              · exact ((hes p' z).gr g7).updL hD7
              · rw [List.mem_singleton.mp z]
                refine RowAt.updL ⟨qs ++ [q2], hp7, by rw [List.length_append, ql]; rfl, fun q' hq' => ?_⟩ hD7
                rcases List.mem_append.mp hq' with z | z
                · exact (((qr q' z).gr g5)).gr g7
                · rw [List.mem_singleton.mp z]; exact lt2.gr g7
          refine ⟨q, t3, qs.map V.ref, [V.ref q2], rfl, rfl, SqT.of hqs6, SqT.of upd_same, ?_, fun e => ?_, (fun _ z => by cases z), fun hne _ p np => ?_⟩
          · rw [List.length_map, ql]
            have : sizeLine = 16777216 := sizeLine_eq
            show i + 1 ≤ _
            omega
          · have eo : qs = [] := by simpa using e
            refine fin t3 _ (Gx.new n3) (new_keep hD5 n3) ?_
            rw [upd_same, eo]
            rfl
          · refine fin p _ ((Gx.new n3).trans (Gx.new np)) (new_keep (new_keep hD5 n3) np) ?_
            rw [upd_same, List.map_append]
            rfl
        · rintro H5 ⟨es, g5, g45, hD5, hes, hel⟩
          rw [List.length_map] at hel
          exact ⟨es, g5, hD5, hes, by omega⟩
      · rintro H2 ⟨ds, g2, hD, hds, hdl⟩
        rw [List.length_map] at hdl
        refine ⟨D, ds, _, rfl, g.trans g2, hD, ?_, hds⟩
        rw [Nat.pow_succ]
        omega
    · rintro σ H1 ⟨D, fs, v, rfl, g, hD, hfl, hfs⟩
      rw [natV_len] at hfs
      exact ⟨_, rfl, kk D H1 fs g hD hfs⟩
end
end K6

/-! ## KLie3 -/
set_option maxRecDepth 100000
set_option maxHeartbeats 4000000
/-! lot_lie. -/
namespace K6
open PySem PySem.Spec PyProof.Rows L2
def spLotLie (a : Ad) : Sp := fun vs H Q _ => ∃ (m ll : Addr) (lot : List Nat) (L O : List (List Nat)) (S : List Nat), vs = [.ref m, .ref ll] ∧ H ll = some (.lst (natV lot)) ∧ lot.length ≤ 2 ∧ lot ≠ [] ∧ (∀ c, c ∈ lot → c < L.length) ∧ MktAt a H m L O S ∧ WF L O S ∧ Tb a H ∧
  ∀ H', Gr a H H' → Q .non H'
theorem lot_law {L L' O : List (List Nat)} {S nx nx' : List Nat} {hd hd' : List (Option Nat)} {lot : List Nat} (wf : WF L O S) (F : DA.Final (dm L O S) (ds nx hd)) (F' : DA.Final (dm L' O S) (ds nx' hd'))
    (hs : ∀ x, x ∉ lot → L'.getD x [] = L.getD x []) (hne : lot ≠ []) : ¬ ∀ c, c ∈ lot → betterB (L.getD c []) (hd'.getD c none) (hd.getD c none) = true := by
  intro h
  have gain : ∀ c, c ∈ lot → DA.rk (dm L O S) c ((ds nx' hd').hd c) < DA.rk (dm L O S) c ((ds nx hd).hd c) := fun c hc => by
    rw [rk_dm, rk_dm]
    exact better_rk (fun r hr => fin_mem F hr) (h c hc)
  obtain ⟨c, hc⟩ := List.exists_mem_of_ne_nil lot hne
  exact DA.no_lie wf.good F F'.stable rfl rfl (List.range L.length) List.nodup_range (fun x hx => pref_ne hx) (fun x hx => hs x fun z => hx (gain x z)) c (gain c hc)
section
variable {P : Program} {w : World} {K : PySem.W.Frag} {mg : Str → Option Value} {base : Heap} {a : Ad}
theorem sc_g_lot_lie : FnScope ["market", "lot", "truth", "row", "told", "place", "asker", "match"] ["market", "lot"] (defScope s_g_lot_lie) := ⟨rfl, rfl, rfl, by decide +kernel, rfl, by decide +kernel, by decide +kernel⟩
theorem ok_lot_lie (T : Txt K mg base a) : FnOk P w K mg base CX0 7 a.f_g_lot_lie a.d_g_lot_lie ["market", "lot"] (spLotLie a) := by
  have GA : FnOk P w K mg base CX0 6 a.f_g_ask_all a.d_g_ask_all ["market"] (spAskAll a) := ok_ask_all T
  have GW : FnOk P w K mg base CX0 5 a.f_M_with_list a.d_M_with_list ["self", "asker", "order"] (spWithList a) := ok_M_with_list T
  have GL : FnOk P w K mg base CX0 2 a.f_g_lists_of_lot a.d_g_lists_of_lot ["market", "lot"] (spLol a) := ok_lists_of_lot T
  refine T.F_g_lot_lie.ok sc_g_lot_lie (fun vs H Q E h => ?_) (fun A outer s H vs Q E hr h => ?_)
  · obtain ⟨m, ll, lot, L, O, S, rfl, _⟩ := h
    rfl
  · obtain ⟨m, ll, lot, L, O, S, rfl, hll, hlot, hne, hlt, M, wf, tb, kk⟩ := h
    have nd := sc_g_lot_lie.nd
    have hr2 : Room 2 _ := hr.mono (by decide)
    have hr5 : Room 5 _ := hr.mono (by decide)
    refine ⟨_, pss_cons (ps_set (i := 2) nd rfl (by first | exact Or.inl rfl | exact Or.inr rfl) (pe_call GA hr (by rfl) T.g_g_ask_all T.F_g_ask_all.kp T.b_g_ask_all .nil pass0 (pa_cons (pv 0) pa_nil)))
      (pss_cons (ps_for PassesOwn.never rfl (pi_list (pe_call GL hr2 (by rfl) T.g_g_lists_of_lot T.F_g_lists_of_lot.kp T.b_g_lists_of_lot .nil pass0 (pa_cons (pv 0) (pa_cons (pv 1) pa_nil)))) (pg_name (i := 3) nd rfl (by first | exact Or.inl rfl | exact Or.inr rfl))
        (pss_cons (ps_set (i := 4) nd rfl (by first | exact Or.inl rfl | exact Or.inr rfl) (pv 0))
        (pss_cons (ps_for PassesOwn.never rfl (pi_enum (by rfl) T.z_enumerate (pa_cons (pv 1) pa_nil)) (pg_tup rfl (pgs_cons (pg_name (i := 5) nd rfl (by first | exact Or.inl rfl | exact Or.inr rfl)) (pgs_cons (pg_name (i := 6) nd rfl (by first | exact Or.inl rfl | exact Or.inr rfl)) pgs_nil)))
          (pss_one (ps_set (i := 4) nd rfl (by first | exact Or.inl rfl | exact Or.inr rfl) (pe_meth (pv 4) T.cl_M T.m_M_with_list GW hr5 T.b_M_with_list .nil pass0 (pa_cons (pv 6) (pa_cons (pe_ix ix_tup (pv 3) (pv 5) (fun _ _ => rfl)) pa_nil))))))
        (pss_cons (ps_set (i := 7) nd rfl (by first | exact Or.inl rfl | exact Or.inr rfl) (pe_call GA hr (by rfl) T.g_g_ask_all T.F_g_ask_all.kp T.b_g_ask_all .nil pass0 (pa_cons (pv 4) pa_nil)))
        (pss_one (ps_if (pt_val (pe_allV (C := CLot a) hr (by rfl) T.z_all T.t3 rfl ⟨rfl, rfl, by decide +kernel, rfl, rfl, free_by (sc := defScope s_g_lot_lie) (by decide +kernel)⟩ (pv 1) (elt_lot T (hr.mono (by decide)) rfl (by decide +kernel) rfl rfl rfl (show (defScope s_g_lot_lie).names.lookup ("market" : Str) = some .cell by decide +kernel) (show (defScope s_g_lot_lie).names.lookup ("truth" : Str) = some .cell by decide +kernel) (show (defScope s_g_lot_lie).names.lookup ("match" : Str) = some .cell by decide +kernel) (by decide +kernel) (by decide +kernel) (by decide +kernel) (free_by (sc := defScope s_g_lot_lie) (by decide +kernel))) (fun _ => rfl)))
          (pss_one (ps_ret (pv 3))) pss_nil))))))
      (pss_one (ps_ret pe_non))), ?_⟩
    dsimp only [tNext, tSeq, tAsg]
    -- truth = ask_all(market)
    refine ⟨_, rfl, m, L, O, S, rfl, M, wf, tb, fun tt H1 nx1 hd1 g1 htt hl1 F1 => ?_⟩
    refine ⟨_, rfl, _, rfl, m, ll, lot, L, O, S, rfl, Gr.lst g1 hll, hlot, M.gr g1, wf, g1.tb tb, fun D H2 fs g2 hD hfs => ?_⟩
    refine ⟨D, rfl, ⟨_, SqL.of hD⟩, ?_⟩
    refine for_list (K := K) (a := D) (xs := fs.map V.ref) (fun i σ H' => ∃ v3 v4 v5 v6 v7 : Option V, σ = [some (.ref m), some (.ref ll), some (.ref tt), v3, v4, v5, v6, v7] ∧ Gr a H2 H') ⟨none, none, none, none, none, rfl, Gx.refl⟩ (fun i σ H' _ ⟨_, _, _, _, _, _, g⟩ => SqL.of (Gr.lst g hD)) ?_ ?_
    · rintro i x σ H3 hx ⟨v3, v4, v5, v6, v7, rfl, g3⟩
      obtain ⟨q, hq, rfl⟩ := map_get hx
      obtain ⟨qs, hqs, ql, qr⟩ := hfs q (List.mem_of_getElem? hq)
      have g13 := g1.trans (g2.trans g3)
      -- told = market
      refine ⟨_, rfl, ?_⟩
      -- for place, asker in enumerate(lot)
      refine ⟨_, rfl, ll, _, rfl, SqL.of (Gr.lst g13 hll), ?_⟩
      refine for_it (walk_enum (K := K) (a := ll) (xs := natV lot)) (fun j σ H' => ∃ (mt : Addr) (L' : List (List Nat)) (v5 v6 : Option V), σ = [some (.ref m), some (.ref ll), some (.ref tt), some (.ref q), some (.ref mt), v5, v6, v7] ∧ Gr a H3 H' ∧ MktAt a H' mt L' O S ∧ WF L' O S ∧ L'.length = L.length ∧ ∀ x, x ∉ lot → L'.getD x [] = L.getD x [])
        ⟨m, L, v5, v6, rfl, Gx.refl, M.gr g13, wf, rfl, fun _ _ => rfl⟩ (fun j σ H' _ ⟨_, _, _, _, _, g, _⟩ => SqL.of (Gr.lst (g13.trans g) hll)) ?_ ?_
      · rintro j x σ H4 H5 hj ⟨mt, L', v5', v6', rfl, g4, M4, wf4, hl4, hs4⟩ ⟨T', y1, y2, rfl, nT, rfl, e1, e2⟩
        cases e1
        obtain ⟨c, hc, rfl⟩ := natV_get e2
        rw [natV_len] at hj
        have hcl : c < L'.length := by rw [hl4]; exact hlt c (List.mem_of_getElem? hc)
        have gT : Gr a H4 (upd H4 T' (.tup [V.int (j : Nat), V.int (c : Nat)])) := Gx.new nT
        have g35 := g4.trans gT
        obtain ⟨qo, hqo⟩ := get_lt (l := qs) (i := j) (by rw [ql]; exact hj)
        obtain ⟨o, ho, o1, o2, o3⟩ := (qr qo (List.mem_of_getElem? hqo)).gr (g3.trans g35)
        obtain ⟨dx5, la5, lr5, ts5, as5, rs5, q1, _⟩ := M4.gr gT
        refine ⟨T', _, rfl, SqT.of upd_same, rfl, _, _, rfl, _, _, rfl, rfl, ?_⟩
        refine ⟨_, rfl, mt, dx5, _, rfl, q1, mf_no _ _ _ (by decide +kernel) (by decide +kernel) (by decide +kernel), _, rfl, _, rfl, _, rfl, q, _, _, _, rfl, rfl, SqT.of (Gr.tup (g3.trans g35) hqs), atI_nat (ref_at hqo), ?_⟩
        refine ⟨mt, qo, c, o, L', O, S, rfl, M4.gr gT, wf4, hcl, ho, ⟨o1, o2, o3⟩, (g13.trans g35).tb tb, fun m2 H6 g6 M6 => ?_⟩
        refine ⟨m2, L'.set c o, _, _, rfl, g35.trans g6, M6, wf4.set ⟨o1, o2, o3⟩, by rw [List.length_set]; exact hl4, fun x hx => ?_⟩
        have hcx : c ≠ x := fun z => hx (by rw [← z]; exact List.mem_of_getElem? hc)
        rw [← hs4 x hx, List.getD_eq_getElem?_getD, List.getElem?_set_ne hcx]
        exact (List.getD_eq_getElem?_getD ..).symm
      · rintro σ H4 ⟨mt, L', v5', v6', rfl, g4, M4, wf4, hl4, hs4⟩
        -- match = ask_all(told)
        refine ⟨_, rfl, mt, L', O, S, rfl, M4, wf4, (g13.trans g4).tb tb, fun tm H5 nx5 hd5 g5 htm hl5 F5 => ?_⟩
        have g15 := g2.trans (g3.trans (g4.trans g5))
        refine ⟨_, rfl, ll, natV lot, (fun v => match v with | .int i => betterB (L.getD i.toNat []) (hd5.getD i.toNat none) (hd1.getD i.toNat none) | _ => false), rfl, .inl (SqL.of (Gr.lst (g1.trans g15) hll)), ((g1.trans g15).tb tb).t3, ?_, fun H6 tg => ?_⟩
        · intro v hv
          obtain ⟨c, hc, rfl⟩ := List.mem_map.mp hv
          have hcl := hlt c hc
          obtain ⟨o, ho⟩ := get_lt (l := L) (i := c) hcl
          obtain ⟨x, hx⟩ := get_lt (l := hd5) (i := c) (by rw [hl5, hl4]; exact hcl)
          obtain ⟨y, hy⟩ := get_lt (l := hd1) (i := c) (by rw [hl1]; exact hcl)
          refine ⟨m, L, O, S, hd5, hd1, tm, tt, c, o, x, y, rfl, M.gr (g1.trans g15), rfl, htm, rfl, Gr.tup g15 htt, rfl, ho, hx, hy, ?_⟩
          show betterB (L.getD ((c : Nat) : Int).toNat []) _ _ = _
          rw [Int.toNat_natCast, getD_of ho, getD_of hx, getD_of hy]
        · have g6 : Gr a H5 H6 := Gx.tabbed ((g1.trans g15).tb tb).t3 T.p43 tg
          have e : ((natV lot).all fun v => match v with | .int i => betterB (L.getD i.toNat []) (hd5.getD i.toNat none) (hd1.getD i.toNat none) | _ => false) = false := by
            rw [Bool.eq_false_iff]
            intro z
            refine lot_law wf F1 F5 hs4 hne fun c hc => ?_
            have := List.all_eq_true.mp z (.int (c : Nat)) (List.mem_map.mpr ⟨c, hc, rfl⟩)
            simpa using this
          refine ⟨_, rfl, ?_⟩
          rw [e]
          refine iteF ?_
          exact ⟨_, _, _, _, _, rfl, g3.trans (g4.trans (g5.trans g6))⟩
    · rintro σ H3 ⟨v3, v4, v5, v6, v7, rfl, g3⟩
      exact kk H3 (g1.trans (g2.trans g3))
end
end K6

/-! ## KFair1 -/
set_option maxRecDepth 100000
set_option maxHeartbeats 4000000
/-! A fair: how it stands in the heap. -/
namespace K6
open PySem PySem.Spec PyProof.Rows L2
/-! ### dicts of words -/
def dkF (ks : List Str) (f : Str → V) : List (Key × V) := ks.map fun k => (Sum.inr k, f k)
theorem dkF_val {ks : List Str} {f : Str → V} {k : Str} : valV (dkF ks f) (Sum.inr k : Key) = if k ∈ ks then some (f k) else none := by
  induction ks with
  | nil => rfl
  | cons x ks ih =>
    show valV ((Sum.inr x, f x) :: dkF ks f) (Sum.inr k) = _
    by_cases e : x = k
    · subst e
      rw [valV_pos rfl, if_pos (by simp)]
    · rw [valV_neg (fun z => e (Sum.inr.inj z)), ih]
      by_cases h : k ∈ ks
      · rw [if_pos h, if_pos (by simp [h])]
      · rw [if_neg h, if_neg (by simp [h, Ne.symm e])]
theorem dkF_keys {ks : List Str} {f : Str → V} : (dkF ks f).map (·.1) = ks.map Sum.inr := by simp [dkF, Function.comp]
theorem dkF_len {ks : List Str} {f : Str → V} : (dkF ks f).length = ks.length := List.length_map ..
theorem dkF_any {ks : List Str} {f : Str → V} {k : Str} : ((dkF ks f).any fun kv => decide (kv.1 = (Sum.inr k : Key))) = decide (k ∈ ks) := by
  rw [Bool.eq_iff_iff, List.any_eq_true, decide_eq_true_eq]
  constructor
  · rintro ⟨kv, h1, h2⟩
    obtain ⟨x, hx, rfl⟩ := List.mem_map.mp h1
    have := Sum.inr.inj (of_decide_eq_true h2)
    rw [← this]; exact hx
  · intro h
    exact ⟨(Sum.inr k, f k), List.mem_map.mpr ⟨k, h, rfl⟩, by simp⟩
theorem dkF_put {ks : List Str} {f : Str → V} {k : Str} {v : V} (h : k ∈ ks) : putK (dkF ks f) (Sum.inr k : Key) v = dkF ks (DA.setF f k v) := by
  unfold putK
  rw [if_pos (by rw [dkF_any, decide_eq_true h])]
  unfold dkF
  rw [List.map_map]
  refine List.map_congr_left fun x _ => ?_
  show (if (Sum.inr x : Key) = Sum.inr k then ((Sum.inr x : Key), v) else (Sum.inr x, f x)) = (Sum.inr x, DA.setF f k v x)
  unfold DA.setF
  by_cases e : x = k
  · rw [if_pos (by rw [e]), if_pos e]
  · rw [if_neg (fun z => e (Sum.inr.inj z)), if_neg e]
theorem dkF_new {ks : List Str} {f : Str → V} {k : Str} {v : V} (h : k ∉ ks) : putK (dkF ks f) (Sum.inr k : Key) v = dkF (ks ++ [k]) (DA.setF f k v) := by
  unfold putK
  rw [if_neg (by rw [dkF_any, decide_eq_false h]; decide)]
  unfold dkF
  rw [List.map_append]
  congr 1
  · refine List.map_congr_left fun x hx => ?_
    rw [DA.setF_ne _ _ fun z => h (by rw [← z]; exact hx)]
  · show [((Sum.inr k : Key), v)] = [(Sum.inr k, DA.setF f k v k)]
    rw [DA.setF_same]
theorem dkF_congr {ks : List Str} {f g : Str → V} (h : ∀ k, k ∈ ks → f k = g k) : dkF ks f = dkF ks g := List.map_congr_left fun x hx => by rw [h x hx]
def strV (l : List Str) : List V := l.map V.str
def optS : Option Str → V
  | none => .non
  | some z => .str z
theorem strV_len (l : List Str) : (strV l).length = l.length := List.length_map ..
theorem strV_get {l : List Str} {i : Nat} {x : V} (h : (strV l)[i]? = some x) : ∃ z, l[i]? = some z ∧ x = .str z := map_get h
theorem strV_at {o : List Str} {i : Nat} {n : Str} (h : o[i]? = some n) : (strV o)[i]? = some (V.str n) := by unfold strV; rw [List.getElem?_map, h]; rfl
theorem strV_snoc (l : List Str) (z : Str) : strV l ++ [V.str z] = strV (l ++ [z]) := by simp [strV]
/-! ### the fair -/
structure FAd where
  p : Addr
  dx : Addr
  dl : Addr
  dr : Addr
  ds : Addr
  dh : Addr
  dn : Addr
def ff (F : FAd) (n : Int) : List (Str × V) := [("lists", .ref F.dl), ("orders", .ref F.dr), ("seats", .ref F.ds), ("held", .ref F.dh), ("next", .ref F.dn), ("asks", .int n)]
section
variable {F : FAd} {n : Int}
theorem ff_lists : (ff F n).lookup ("lists" : Str) = some (V.ref F.dl) := lk1
theorem ff_orders : (ff F n).lookup ("orders" : Str) = some (V.ref F.dr) := lk2 (by decide +kernel) lk1
theorem ff_seats : (ff F n).lookup ("seats" : Str) = some (V.ref F.ds) := lk2 (by decide +kernel) (lk2 (by decide +kernel) lk1)
theorem ff_held : (ff F n).lookup ("held" : Str) = some (V.ref F.dh) := lk2 (by decide +kernel) (lk2 (by decide +kernel) (lk2 (by decide +kernel) lk1))
theorem ff_next : (ff F n).lookup ("next" : Str) = some (V.ref F.dn) := lk2 (by decide +kernel) (lk2 (by decide +kernel) (lk2 (by decide +kernel) (lk2 (by decide +kernel) lk1)))
theorem ff_asks : (ff F n).lookup ("asks" : Str) = some (V.int n) := lk2 (by decide +kernel) (lk2 (by decide +kernel) (lk2 (by decide +kernel) (lk2 (by decide +kernel) (lk2 (by decide +kernel) lk1))))
theorem ff_no {x : Str} (h1 : ¬ x = "lists") (h2 : ¬ x = "orders") (h3 : ¬ x = "seats") (h4 : ¬ x = "held") (h5 : ¬ x = "next") (h6 : ¬ x = "asks") : (ff F n).lookup x = none := lk0 h1 (lk0 h2 (lk0 h3 (lk0 h4 (lk0 h5 (lk0 h6 lkn)))))
theorem ff_put {m : Int} : putF "asks" (.int m) (ff F n) = ff F m := pf2 (by decide +kernel) (pf2 (by decide +kernel) (pf2 (by decide +kernel) (pf2 (by decide +kernel) (pf2 (by decide +kernel) pf1))))
end
def FAd.S (F : FAd) : List Addr := [F.p, F.dl, F.dr, F.ds, F.dh, F.dn]
/-- what a fair knows -/
structure Fr where
  As : List Str
  Rs : List Str
  ls : Str → List Str
  os : Str → List Str
  st : Str → Nat
  hd : Str → Option Str
  nx : Str → Nat
def Fr.m (f : Fr) : DA.Mkt Str Str := ⟨f.ls, f.os, f.st⟩
def Fr.s (f : Fr) : DA.St Str Str := ⟨f.nx, f.hd⟩
/-- .. and how it is well -/
structure Fr.Ok (f : Fr) : Prop where
  nA : f.As.Nodup
  nR : f.Rs.Nodup
  cA : f.As.length ≤ 10
  cR : f.Rs.length ≤ 2
  dA : ∀ k, k ∉ f.As → f.ls k = [] ∧ f.nx k = 0 ∧ f.hd k = none
  dR : ∀ k, k ∉ f.Rs → f.os k = [] ∧ f.st k = 0
  wl : ∀ k, (f.ls k).Nodup ∧ (f.ls k).length ≤ 100
  wo : ∀ k, (f.os k).Nodup ∧ (f.os k).length ≤ 100
  sA : ∀ z, z ∈ f.As → PyData.strOk z = true
  sL : ∀ k z, z ∈ f.ls k → PyData.strOk z = true
/-- the dict at d holds words' lists -/
def LstsAt (H : Hp) (d : Addr) (ks : List Str) (f : Str → List Str) : Prop := ∃ lp : Str → Addr, Rd H d (.dK (dkF ks fun k => .ref (lp k))) ∧ ∀ k, k ∈ ks → PT H (lp k) (strV (f k))
/-- a fair stands, readable -/
structure FairR (a : Ad) (H : Hp) (F : FAd) (f : Fr) : Prop where
  ins : ∃ n, H F.p = some (.ins a.cF F.dx (ff F n))
  l : LstsAt H F.dl f.As f.ls
  o : LstsAt H F.dr f.Rs f.os
  s : H F.ds = some (.dK (dkF f.Rs fun k => .int (f.st k : Nat)))
  h : H F.dh = some (.dK (dkF f.As fun k => optS (f.hd k)))
  n : H F.dn = some (.dK (dkF f.As fun k => .int (f.nx k : Nat)))
/-- .. and writable -/
structure FairAt (a : Ad) (H : Hp) (F : FAd) (f : Fr) : Prop extends FairR a H F f where
  wl : ∃ lp : Str → Addr, H F.dl = some (.dK (dkF f.As fun k => .ref (lp k)))
  wo : ∃ lp : Str → Addr, H F.dr = some (.dK (dkF f.Rs fun k => .ref (lp k)))
  nd : [F.dl, F.dr, F.ds, F.dh, F.dn].Nodup
theorem Gx.rd {a : Ad} {S : List Addr} {H H' : Hp} (x : Gx a S H H') {b : Addr} {kvs : List (Key × V)} (h : Rd H b (.dK kvs)) (hb : b ∉ S) : Rd H' b (.dK kvs) := by
  rcases h with h | ⟨o, h⟩
  · exact .inl (x.keep _ _ h hb rfl)
  · exact .inr ⟨o, x.keep _ _ h hb rfl⟩
theorem LstsAt.gr {a : Ad} {H H' : Hp} {d : Addr} {ks : List Str} {f : Str → List Str} (g : Gr a H H') (h : LstsAt H d ks f) : LstsAt H' d ks f :=
  let ⟨lp, e, r⟩ := h; ⟨lp, g.rd e (by simp), fun k hk => (r k hk).gr g⟩
theorem FairR.gr {a : Ad} {H H' : Hp} {F : FAd} {f : Fr} (g : Gr a H H') (h : FairR a H F f) : FairR a H' F f :=
  ⟨h.ins.imp fun _ x => Gr.ins g x, h.l.gr g, h.o.gr g, Gr.dk g h.s, Gr.dk g h.h, Gr.dk g h.n⟩
theorem FairAt.gr {a : Ad} {H H' : Hp} {F : FAd} {f : Fr} (g : Gr a H H') (h : FairAt a H F f) : FairAt a H' F f :=
  ⟨h.toFairR.gr g, h.wl.imp fun _ x => Gr.dk g x, h.wo.imp fun _ x => Gr.dk g x, h.nd⟩
/-- a[k], k a word of the dict -/
theorem dget_w {H : Hp} {d : Addr} {ks : List Str} {f : Str → V} {k : Str} (h : Rd H d (.dK (dkF ks f))) (hk : k ∈ ks) : DGet H d (.str k) (some (f k)) :=
  .inl ⟨_, Sum.inr k, h, rfl, by rw [dkF_val, if_pos hk]⟩
theorem dget_in {H : Hp} {d : Addr} {ks : List Str} {f : Str → V} {k : Str} (h : Rd H d (.dK (dkF ks f))) : ∃ o, DGet H d (.str k) o ∧ o.isSome = decide (k ∈ ks) := by
  refine ⟨_, .inl ⟨_, Sum.inr k, h, rfl, rfl⟩, ?_⟩
  rw [dkF_val]
  by_cases e : k ∈ ks
  · rw [if_pos e, decide_eq_true e]; rfl
  · rw [if_neg e, decide_eq_false e]; rfl
theorem dget_or {H : Hp} {d : Addr} {ks : List Str} {f : Str → V} {k : Str} (h : Rd H d (.dK (dkF ks f))) : ∃ o, DGet H d (.str k) o ∧ o.getD .non = if k ∈ ks then f k else .non := by
  refine ⟨_, .inl ⟨_, Sum.inr k, h, rfl, rfl⟩, ?_⟩
  rw [dkF_val]
  by_cases e : k ∈ ks
  · rw [if_pos e, if_pos e]; rfl
  · rw [if_neg e, if_neg e]; rfl
theorem dput_w {H : Hp} {d : Addr} {ks : List Str} {f : Str → V} {k : Str} {v : V} (h : H d = some (.dK (dkF ks f))) (hk : k ∈ ks) (hl : ks.length ≤ 1000) : DPut H d (.str k) v (upd H d (.dK (dkF ks (DA.setF f k v)))) :=
  .inl ⟨_, Sum.inr k, h, rfl, by rw [dkF_len]; exact sz1000 hl, by rw [dkF_put hk]⟩
theorem dput_n {H : Hp} {d : Addr} {ks : List Str} {f : Str → V} {k : Str} {v : V} (h : H d = some (.dK (dkF ks f))) (hk : k ∉ ks) (hl : ks.length ≤ 1000) : DPut H d (.str k) v (upd H d (.dK (dkF (ks ++ [k]) (DA.setF f k v)))) :=
  .inl ⟨_, Sum.inr k, h, rfl, by rw [dkF_len]; exact sz1000 hl, by rw [dkF_new hk]⟩
end K6

/-! ## KFair2 -/
set_option maxRecDepth 100000
set_option maxHeartbeats 4000000
/-! Fair.__init__, likes, those_in, check_words. -/
namespace K6
open PySem PySem.Spec PyProof.Rows L2
def frNew : Fr := ⟨[], [], fun _ => [], fun _ => [], fun _ => 0, fun _ => none, fun _ => 0⟩
def spFInit (a : Ad) : Sp := fun vs H Q _ => ∃ (p dx : Addr), vs = [.ref p] ∧ H p = some (.ins a.cF dx []) ∧ ∀ H' F, F.p = p → FairAt a H' F frNew → Gx a [p] H H' → (∀ b, b ∈ F.S → b ≠ p → H b = none) → Q .non H'
def spFLikes (a : Ad) : Sp := fun vs H Q _ => ∃ (F : FAd) (f : Fr) (x r : Str), vs = [.ref F.p, .str x, .str r] ∧ FairR a H F f ∧ f.Ok ∧ Q (.bl (decide (r ∈ f.ls x ∧ x ∈ f.os r))) H
def spFThose (a : Ad) : Sp := fun vs H Q _ => ∃ (F : FAd) (f : Fr) (r : Str), vs = [.ref F.p, .str r] ∧ FairAt a H F f ∧ f.Ok ∧ r ∈ f.Rs ∧ ∀ D H', Gr a H H' → H D = none → H' D = some (.lst (strV (DA.inside f.m f.hd r))) → Q (.ref D) H'
def spCheckWords (a : Ad) : Sp := fun vs H Q _ => ∃ (t : Addr) (l : List Str), vs = [.ref t] ∧ PT H t (strV l) ∧ l.Nodup ∧ l.length ≤ 100 ∧ ∀ H', Gr a H H' → Q (.ref t) H'
theorem inV_str (z : Str) (l : List Str) : inV (V.str z) (strV l) = decide (z ∈ l) := by
  unfold inV strV
  rw [List.any_map, Bool.eq_iff_iff, List.any_eq_true, decide_eq_true_eq]
  constructor
  · rintro ⟨k, hk, e⟩
    have e : (k == z) = true := e
    rw [← beq_iff_eq.mp e]; exact hk
  · intro h
    exact ⟨z, h, by show (z == z) = true; simp⟩
theorem strV_flat (l : List Str) : (strV l).all flatV = true := by
  rw [List.all_eq_true]
  intro v hv
  obtain ⟨z, _, rfl⟩ := List.mem_map.mp hv
  rfl
section
variable {P : Program} {w : World} {K : PySem.W.Frag} {mg : Str → Option Value} {base : Heap} {a : Ad}
theorem sc_F_init : FnScope ["self"] ["self"] (defScope s_F_init) := ⟨rfl, rfl, rfl, by decide +kernel, rfl, by decide +kernel, by decide +kernel⟩
theorem ok_F_init (T : Txt K mg base a) : FnOk P w K mg base CX0 1 a.f_F_init a.d_F_init ["self"] (spFInit a) := by
  refine T.F_F_init.ok sc_F_init (fun vs H Q E h => ?_) (fun cdv A outer s H vs Q E hr h => ?_)
  · obtain ⟨p, dx, rfl, _⟩ := h
    rfl
  · obtain ⟨p, dx, rfl, hp, k⟩ := h
    refine ⟨_, pss_cons (ps_fld (pv 0) pe_dnewK rfl) (pss_cons (ps_fld (pv 0) pe_dnewK rfl) (pss_cons (ps_fld (pv 0) pe_dnewK rfl) (pss_cons (ps_fld (pv 0) pe_dnewK rfl) (pss_cons (ps_fld (pv 0) pe_dnewK rfl) (pss_one (ps_fld (pv 0) pe_int rfl)))))), ?_⟩
    have step : ∀ (H1 : Hp) (fs fs' : List (Str × V)) (x : Str) (d : Addr) (v : V), H1 p = some (.ins a.cF dx fs) → H1 d = none → putF x v fs = fs' →
      upd (upd H1 d (.dK [])) p (.ins a.cF dx (putF x v fs)) p = some (.ins a.cF dx fs') ∧ upd (upd H1 d (.dK [])) p (.ins a.cF dx (putF x v fs)) d = some (.dK []) ∧ Gx a [p] H1 (upd (upd H1 d (.dK [])) p (.ins a.cF dx (putF x v fs))) := fun H1 fs fs' x d v h1 h2 h3 => by
        have ne : d ≠ p := fun z => by rw [z, h1] at h2; cases h2
        exact ⟨by rw [upd_same, h3], by rw [upd_ne ne, upd_same], (Gx.new h2).trans (Gx.set (new_keep h1 h2) rfl (by simp))⟩
    have np : ∀ {b : Addr} {H' : Hp} {fs : List (Str × V)}, H' p = some (.ins a.cF dx fs) → H' b = some (.dK []) → b ∉ [p] := fun h1 h2 z => by
      rw [List.mem_singleton.mp z, h1] at h2; cases h2
    dsimp only [tNext, tSeq, sFld]
    intro d1 n1
    refine ⟨_, rfl, p, a.cF, dx, _, rfl, new_keep hp n1, T.cl_F, T.n_F_lists, (by show 0 < 1000; decide), ?_⟩
    obtain ⟨p1, e1, g1⟩ := step H [] [(("lists" : Str), V.ref d1)] "lists" d1 (.ref d1) hp n1 pf0
    generalize upd (upd H d1 (.dK [])) p _ = H1 at *
    intro d2 n2
    refine ⟨_, rfl, p, a.cF, dx, _, rfl, new_keep p1 n2, T.cl_F, T.n_F_orders, (by show 1 < 1000; decide), ?_⟩
    obtain ⟨p2, e2, g2⟩ := step H1 [(("lists" : Str), V.ref d1)] [(("lists" : Str), V.ref d1), (("orders" : Str), V.ref d2)] "orders" d2 (.ref d2) p1 n2 (pf2 (by decide +kernel) pf0)
    generalize upd (upd H1 d2 (.dK [])) p _ = H2 at *
    have m12 : d1 ≠ d2 := ne_of_none e1 n2
    replace e1 := g2.dk e1 (np p1 e1)
    replace g2 := g1.trans g2
    have k2 := g1.free _ n2
    intro d3 n3
    refine ⟨_, rfl, p, a.cF, dx, _, rfl, new_keep p2 n3, T.cl_F, T.n_F_seats, (by show 2 < 1000; decide), ?_⟩
    obtain ⟨p3, e3, g3⟩ := step H2 [(("lists" : Str), V.ref d1), (("orders" : Str), V.ref d2)] [(("lists" : Str), V.ref d1), (("orders" : Str), V.ref d2), (("seats" : Str), V.ref d3)] "seats" d3 (.ref d3) p2 n3 (pf2 (by decide +kernel) (pf2 (by decide +kernel) pf0))
    generalize upd (upd H2 d3 (.dK [])) p _ = H3 at *
    have m13 : d1 ≠ d3 := ne_of_none e1 n3
    replace e1 := g3.dk e1 (np p2 e1)
    have m23 : d2 ≠ d3 := ne_of_none e2 n3
    replace e2 := g3.dk e2 (np p2 e2)
    replace g3 := g2.trans g3
    have k3 := g2.free _ n3
    intro d4 n4
    refine ⟨_, rfl, p, a.cF, dx, _, rfl, new_keep p3 n4, T.cl_F, T.n_F_held, (by show 3 < 1000; decide), ?_⟩
    obtain ⟨p4, e4, g4⟩ := step H3 [(("lists" : Str), V.ref d1), (("orders" : Str), V.ref d2), (("seats" : Str), V.ref d3)] [(("lists" : Str), V.ref d1), (("orders" : Str), V.ref d2), (("seats" : Str), V.ref d3), (("held" : Str), V.ref d4)] "held" d4 (.ref d4) p3 n4 (pf2 (by decide +kernel) (pf2 (by decide +kernel) (pf2 (by decide +kernel) pf0)))
    generalize upd (upd H3 d4 (.dK [])) p _ = H4 at *
    have m14 : d1 ≠ d4 := ne_of_none e1 n4
    replace e1 := g4.dk e1 (np p3 e1)
    have m24 : d2 ≠ d4 := ne_of_none e2 n4
    replace e2 := g4.dk e2 (np p3 e2)
    have m34 : d3 ≠ d4 := ne_of_none e3 n4
    replace e3 := g4.dk e3 (np p3 e3)
    replace g4 := g3.trans g4
    have k4 := g3.free _ n4
    intro d5 n5
    refine ⟨_, rfl, p, a.cF, dx, _, rfl, new_keep p4 n5, T.cl_F, T.n_F_next, (by show 4 < 1000; decide), ?_⟩
    obtain ⟨p5, e5, g5⟩ := step H4 [(("lists" : Str), V.ref d1), (("orders" : Str), V.ref d2), (("seats" : Str), V.ref d3), (("held" : Str), V.ref d4)] [(("lists" : Str), V.ref d1), (("orders" : Str), V.ref d2), (("seats" : Str), V.ref d3), (("held" : Str), V.ref d4), (("next" : Str), V.ref d5)] "next" d5 (.ref d5) p4 n5 (pf2 (by decide +kernel) (pf2 (by decide +kernel) (pf2 (by decide +kernel) (pf2 (by decide +kernel) pf0))))
    generalize upd (upd H4 d5 (.dK [])) p _ = H5 at *
    have m15 : d1 ≠ d5 := ne_of_none e1 n5
    replace e1 := g5.dk e1 (np p4 e1)
    have m25 : d2 ≠ d5 := ne_of_none e2 n5
    replace e2 := g5.dk e2 (np p4 e2)
    have m35 : d3 ≠ d5 := ne_of_none e3 n5
    replace e3 := g5.dk e3 (np p4 e3)
    have m45 : d4 ≠ d5 := ne_of_none e4 n5
    replace e4 := g5.dk e4 (np p4 e4)
    replace g5 := g4.trans g5
    have k5 := g4.free _ n5
    refine ⟨_, rfl, p, a.cF, dx, _, rfl, p5, T.cl_F, T.n_F_asks, (by show 5 < 1000; decide), ?_⟩
    have g6 : Gx a [p] H5 (upd H5 p (.ins a.cF dx (putF "asks" (.int 0) [(("lists" : Str), V.ref d1), (("orders" : Str), V.ref d2), (("seats" : Str), V.ref d3), (("held" : Str), V.ref d4), (("next" : Str), V.ref d5)]))) := Gx.set p5 rfl (by simp)
    have p6 : upd H5 p (.ins a.cF dx (putF "asks" (.int 0) [(("lists" : Str), V.ref d1), (("orders" : Str), V.ref d2), (("seats" : Str), V.ref d3), (("held" : Str), V.ref d4), (("next" : Str), V.ref d5)])) p = some (.ins a.cF dx (ff ⟨p, dx, d1, d2, d3, d4, d5⟩ 0)) := by
      rw [upd_same]
      congr 2
    generalize upd H5 p _ = H6 at *
    replace e1 := g6.dk e1 (np p5 e1)
    replace e2 := g6.dk e2 (np p5 e2)
    replace e3 := g6.dk e3 (np p5 e3)
    replace e4 := g6.dk e4 (np p5 e4)
    replace e5 := g6.dk e5 (np p5 e5)
    refine k H6 ⟨p, dx, d1, d2, d3, d4, d5⟩ rfl ⟨⟨⟨0, p6⟩, ⟨fun _ => 0, .inl e1, fun _ z => by cases z⟩, ⟨fun _ => 0, .inl e2, fun _ z => by cases z⟩, e3, e4, e5⟩, ⟨fun _ => 0, e1⟩, ⟨fun _ => 0, e2⟩, ?_⟩ (g5.trans g6) ?_
    · simp [m12, m13, m14, m15, m23, m24, m25, m34, m35, m45]
    · intro b hb hne
      simp only [FAd.S, List.mem_cons, List.not_mem_nil, or_false] at hb
      rcases hb with rfl | rfl | rfl | rfl | rfl | rfl
      · exact absurd rfl hne
      · exact n1
      · exact k2
      · exact k3
      · exact k4
      · exact k5
theorem sc_F_likes : FnScope ["self", "asker", "room"] ["self", "asker", "room"] (defScope s_F_likes) := ⟨rfl, rfl, rfl, by decide +kernel, rfl, by decide +kernel, by decide +kernel⟩
theorem ok_F_likes (T : Txt K mg base a) : FnOk P w K mg base CX0 1 a.f_F_likes a.d_F_likes ["self", "asker", "room"] (spFLikes a) := by
  refine T.F_F_likes.ok sc_F_likes (fun vs H Q E h => ?_) (fun cdv A outer s H vs Q E hr h => ?_)
  · obtain ⟨F, f, x, r, rfl, _⟩ := h
    rfl
  · obtain ⟨F, f, x, r, rfl, M, ok, k⟩ := h
    have hu := hu_of hr
    refine ⟨_, pss_cons (ps_if (PW.pt (pw_or (pt_cmp (pc_dnotin hu (pv 1) (pe_fld (pv 0) rfl)) rfl) (pw_or1 (pt_cmp (pc_dnotin hu (pv 2) (pe_fld (pv 0) rfl)) rfl)))) (pss_one (ps_ret pe_bl)) pss_nil)
      (pss_one (ps_ret (pe_and (pe_cmpR (r := rIn K false) op_in_seq (pv 2) (pe_dget hu (pe_fld (pv 0) rfl) (pv 1) (fun _ _ => rfl)) rfl) (pe_one (pe_cmpR (r := rIn K false) op_in_seq (pv 1) (pe_dget hu (pe_fld (pv 0) rfl) (pv 2) (fun _ _ => rfl)) rfl))))), ?_⟩
    obtain ⟨n, hp⟩ := M.ins
    obtain ⟨lp, hl, hlp⟩ := M.l
    obtain ⟨rp, hr1, hrp⟩ := M.o
    obtain ⟨o1, d1, s1⟩ := dget_in (k := x) hl
    obtain ⟨o2, d2, s2⟩ := dget_in (k := r) hr1
    refine ⟨_, rfl, _, rfl, F.p, a.cF, F.dx, _, _, rfl, hp, T.cl_F, T.n_F_lists, ff_lists, F.dl, o1, rfl, d1, _, rfl, ?_⟩
    rw [s1]
    by_cases hx : x ∈ f.As
    · rw [decide_eq_true hx]
      refine iteF ?_
      refine ⟨_, rfl, _, rfl, F.p, a.cF, F.dx, _, _, rfl, hp, T.cl_F, T.n_F_orders, ff_orders, F.dr, o2, rfl, d2, _, rfl, ?_⟩
      rw [s2]
      by_cases hr' : r ∈ f.Rs
      · rw [decide_eq_true hr']
        refine iteF ?_
        refine ⟨_, rfl, _, rfl, F.p, a.cF, F.dx, _, _, rfl, hp, T.cl_F, T.n_F_lists, ff_lists, _, rfl, F.dl, _, rfl, dget_w hl hx, lp x, _, rfl, .inr (hlp x hx).sq, rfl, strV_flat _, _, rfl, ?_⟩
        rw [show (if false = true then !inV (V.str r) (strV (f.ls x)) else inV (V.str r) (strV (f.ls x))) = inV (V.str r) (strV (f.ls x)) from rfl, inV_str]
        by_cases h1 : r ∈ f.ls x
        · rw [decide_eq_true h1]
          refine iteT ?_
          refine ⟨_, rfl, _, rfl, F.p, a.cF, F.dx, _, _, rfl, hp, T.cl_F, T.n_F_orders, ff_orders, _, rfl, F.dr, _, rfl, dget_w hr1 hr', rp r, _, rfl, .inr (hrp r hr').sq, rfl, strV_flat _, ?_⟩
          rw [show (if false = true then !inV (V.str x) (strV (f.os r)) else inV (V.str x) (strV (f.os r))) = inV (V.str x) (strV (f.os r)) from rfl, inV_str]
          have e : decide (r ∈ f.ls x ∧ x ∈ f.os r) = decide (x ∈ f.os r) := by simp [h1]
          rw [e] at k
          exact k
        · rw [decide_eq_false h1]
          refine iteF ?_
          have e : decide (r ∈ f.ls x ∧ x ∈ f.os r) = false := by simp [h1]
          rw [e] at k
          exact k
      · rw [decide_eq_false hr']
        refine iteT ?_
        have e : decide (r ∈ f.ls x ∧ x ∈ f.os r) = false := by simp [(ok.dR r hr').1]
        rw [e] at k
        exact k
    · rw [decide_eq_false hx]
      refine iteT ?_
      have e : decide (r ∈ f.ls x ∧ x ∈ f.os r) = false := by simp [(ok.dA x hx).1]
      rw [e] at k
      exact k
/-! ### dict([(x, 1) for x in xs]) -/
def onesS (l : List Str) : List (Key × V) := dkF l fun _ => V.int 1
theorem onesS_keys {l : List Str} (h : l.Nodup) : ((onesS l).map (·.1)).Nodup := by
  unfold onesS
  rw [dkF_keys]
  exact List.Pairwise.map (fun n : Str => (Sum.inr n : Key)) (fun a b hab z => hab (Sum.inr.inj z)) h
theorem onesS_snoc {l : List Str} {z : Str} : onesS (l ++ [z]) = onesS l ++ [((Sum.inr z : Key), V.int 1)] := by simp [onesS, dkF]
theorem ones_walk {J : It} {G : Hp → Prop} {σ : L2.St} {j : Nat} {H1 : Hp} {D : Addr} {Qd : Hp → Prop} {l : List Str} (w : Walk J (strV l).length G (fun i H x H' => H' = H ∧ (strV l)[i]? = some x)) (hG : ∀ H, Gr a H1 H → G H)
    (hw : ∀ v : V, wipe ((wipe σ [j]).set j (some v)) [j] = wipe σ [j]) (hv : ∀ v : V, ((wipe σ [j]).set j (some v))[j]? = some (some v)) (hl : l.length ≤ 1000) (nD : H1 D = none)
    (k : ∀ H2 (ps : List Addr), Gr a H1 H2 → H2 D = some (.lst (ps.map V.ref)) → Paired (fun p kv => H2 p = some (.tup [kV kv.1, kv.2])) ps (onesS l) → Qd H2) :
    ∃ W : Nat → Nat → Hp → Prop, (∃ m, W 0 m (upd H1 D (.lst []))) ∧ ∀ i m H, W i m H →
      (J.stop i H ∧ Qd H) ∨ (J.go i H ∧ ∃ Nx : Hp → Prop, (∀ H', Nx H' → ∃ m', m' < m ∧ W (i + 1) m' H') ∧ ∀ x H', J.yld i H x H' → gName j x (wipe σ [j]) H' fun σ2 H2 => wipe σ2 [j] = wipe σ [j] ∧ tYes σ2 H2 fun b H3 =>
        if b = true then tTup (tCons (tVar j) (tCons (tC (.int 1)) tNil)) σ2 H3 fun y H4 => ∃ acc, H4 D = some (.lst acc) ∧ acc.length < sizeLine ∧ Nx (upd H4 D (.lst (acc ++ [y]))) else Nx H3) := by
  refine lc_it w (fun i H' => ∃ (ps : List Addr), Gr a H1 H' ∧ H' D = some (.lst (ps.map V.ref)) ∧ Paired (fun p kv => H' p = some (.tup [kV kv.1, kv.2])) ps (onesS (l.take i)) ∧ ps.length = i)
    ⟨[], Gx.new nD, upd_same, .nil, rfl⟩ (fun i H' _ ⟨_, g, _, _, _⟩ => hG H' g) ?_ ?_
  · rintro i x H' H3 hi ⟨ps, g, hD, hp, hpl⟩ ⟨rfl, e2⟩
    obtain ⟨n, hn, rfl⟩ := strV_get e2
    rw [strV_len] at hi
    refine ⟨hw _, ?_⟩
    refine tYes_ok ?_
    refine iteT ?_
    refine ⟨_, hv _, (by show 2 ≤ sizeLine; decide), fun T2 nT2 => ?_⟩
    have hD2 := new_keep (o := .tup [V.str n, V.int 1]) hD nT2
    refine ⟨_, hD2, sz1000 (by rw [List.length_map, hpl]; omega), ps ++ [T2], ?_, ?_, ?_, ?_⟩
    · exact Gx.app (g.trans (Gx.new nT2)) nD hD2 rfl
    · rw [upd_same, List.map_append]; rfl
    · rw [take_snoc hn, onesS_snoc]
      refine paired_snoc ?_ (Paired.mapP hp fun p kv h => upd_tup (new_keep h nT2) hD2)
      exact upd_tup upd_same hD2
    · rw [List.length_append, hpl]; rfl
  · rintro H' ⟨ps, g, hD, hp, hpl⟩
    rw [strV_len, List.take_length] at hp
    exact k H' ps g hD hp
theorem optS_eq (o : Option Str) (r : Str) : scal (optS o) (V.str r) = true ∧ decide (optS o = V.str r) = decide (o = some r) := by
  cases o with
  | none => exact ⟨rfl, rfl⟩
  | some n =>
    refine ⟨rfl, ?_⟩
    show decide (V.str n = V.str r) = _
    rw [dec_str]
    by_cases h : n = r
    · subst h; simp
    · simp [h]
theorem sc_g_check_words : FnScope ["words", "found", "word"] ["words"] (defScope s_g_check_words) := ⟨rfl, rfl, rfl, by decide +kernel, rfl, by decide +kernel, by decide +kernel⟩
theorem ok_check_words (T : Txt K mg base a) : FnOk P w K mg base CX0 1 a.f_g_check_words a.d_g_check_words ["words"] (spCheckWords a) := by
  refine T.F_g_check_words.ok sc_g_check_words (fun vs H Q E h => ?_) (fun cdv A outer s H vs Q E hr h => ?_)
  · obtain ⟨t, l, rfl, _⟩ := h
    rfl
  · obtain ⟨t, l, rfl, ht, nd, hl, k⟩ := h
    refine ⟨_, pss_cons (ps_set (i := 1) sc_g_check_words.nd rfl (Or.inl rfl) (pe_callTy call_tupleT (by rfl) T.z_tuple bt_tuple (pa_cons (pv 0) pa_nil)))
      (pss_cons (ps_if (pt_cmpR op_ne (pe_callB call_lenD (by rfl) T.z_len bt_len (pa_cons (pe_callTy (call_dictP rfl) (by rfl) T.z_dict bt_dict (pa_cons
          (pe_lc (own := [("word", 2)]) (g := gName 2) (tt := tYes) rfl sc_g_check_words.nd (pi_tup (pv 1)) (blkOk_by (N := ["words", "found", "word"]) (sc := defScope s_g_check_words) (by decide +kernel))
            (fun _ _ _ _ _ => pg_name (i := 2) sc_g_check_words.nd rfl (Or.inl rfl)) (fun _ _ _ _ _ => pts_nil) (fun _ _ _ _ _ => pe_tup (pa_cons (pv 2) (pa_cons pe_int pa_nil)))) pa_nil)) pa_nil))
          (pe_callB call_len_seq (by rfl) T.z_len bt_len (pa_cons (pv 1) pa_nil)) (nomark _)) pss_never pss_nil)
      (pss_one (ps_ret (pv 1)))), ?_⟩
    refine ⟨_, rfl, t, _, rfl, ht.sq, ?_⟩
    refine ⟨_, rfl, t, rfl, ⟨_, ht.sq⟩, fun D nD => ?_⟩
    refine ones_walk (a := a) (walk_tup (K := K) (a := t)) (fun H' g => (ht.gr g).sq) (fun _ => rfl) (fun _ => rfl) (by omega) nD fun H2 ps g2 hD hp => ?_
    refine ⟨D, ps, onesS l, rfl, SqL.of hD, Paired.mapP hp fun p kv h => SqT.of h, fun d nd' => ?_⟩
    rw [mergeK_nodup (onesS_keys nd)]
    have g3 : Gr a H (upd H2 d (.dK (onesS l))) := g2.trans (Gx.new nd')
    refine ⟨d, _, rfl, upd_same, ?_⟩
    refine ⟨_, rfl, t, _, rfl, .inr (ht.gr g3).sq, rfl, _, rfl, ?_⟩
    refine iteNS (by simp [onesS, dkF, strV]) ?_
    exact ⟨_, rfl, k _ g3⟩
theorem sc_F_those_in : FnScope ["self", "room", "asker"] ["self", "room"] (defScope s_F_those_in) := ⟨rfl, rfl, rfl, by decide +kernel, rfl, by decide +kernel, by decide +kernel⟩
theorem ok_F_those_in (T : Txt K mg base a) : FnOk P w K mg base CX0 1 a.f_F_those_in a.d_F_those_in ["self", "room"] (spFThose a) := by
  refine T.F_F_those_in.ok sc_F_those_in (fun vs H Q E h => ?_) (fun cdv A outer s H vs Q E hr h => ?_)
  · obtain ⟨F, f, r, rfl, _⟩ := h
    rfl
  · obtain ⟨F, f, r, rfl, M, ok, hrr, k⟩ := h
    have hu := hu_of hr
    have nd := sc_F_those_in.nd
    refine ⟨_, pss_one (ps_ret (pe_lc (own := [("asker", 2)]) (g := gName 2) (te := tVar 2) rfl nd (pi_tup (pe_dget hu (pe_fld (pv 0) rfl) (pv 1) (fun _ _ => rfl))) (blkOk_by (N := ["self", "room", "asker"]) (sc := defScope s_F_those_in) (by decide +kernel))
          (fun _ _ _ _ _ => pg_name (i := 2) nd rfl (Or.inl rfl)) (fun _ _ _ _ _ => pts_one (pt_cmpR (ta := tDGet1 (tFld K (tVar 0) "held") (tVar 2)) op_eq (pe_dget1 hu (pe_fld (pv 0) rfl) (pv 2) ⟨rfl, rfl, rfl, rfl⟩) (pv 1) (nomark _))) (fun _ _ _ _ _ => pv 2))), ?_⟩
    obtain ⟨n, hp⟩ := M.ins
    obtain ⟨rp, hr1, hrp⟩ := M.o
    refine ⟨_, rfl, F.p, a.cF, F.dx, _, _, rfl, hp, T.cl_F, T.n_F_orders, ff_orders, _, rfl, F.dr, _, rfl, dget_w hr1 hrr, rp r, rfl, ⟨_, (hrp r hrr).sq⟩, fun D nD => ?_⟩
    refine lc_tup (K := K) (a := rp r) (xs := strV (f.os r)) (fun i H' => Gr a H H' ∧ H' D = some (.lst (strV (((f.os r).take i).filter fun x => decide (f.hd x = some r))))) ⟨Gx.new nD, upd_same⟩ (fun i H' _ ⟨g, _⟩ => ((hrp r hrr).gr g).sq) ?_ ?_
    · rintro i x H' hx ⟨g, hD⟩
      obtain ⟨z, hz, rfl⟩ := strV_get hx
      have M' := M.gr g
      obtain ⟨n', hp'⟩ := M'.ins
      obtain ⟨o, d1, s1⟩ := dget_or (k := z) (.inl M'.h)
      refine ⟨rfl, ?_⟩
      refine ⟨_, rfl, F.p, a.cF, F.dx, _, _, rfl, hp', T.cl_F, T.n_F_held, ff_held, F.dh, rfl, .inl ⟨_, .inl M'.h⟩, _, rfl, o, d1, ?_⟩
      have e : (if z ∈ f.As then optS (f.hd z) else V.non) = optS (f.hd z) := by
        by_cases h : z ∈ f.As
        · rw [if_pos h]
        · rw [if_neg h, (ok.dA z h).2.2]; rfl
      rw [s1, e]
      refine ⟨_, rfl, (optS_eq _ _).1, _, rfl, ?_⟩
      rw [(optS_eq _ _).2]
      by_cases h : f.hd z = some r
      · rw [decide_eq_true h]
        refine iteT ?_
        refine ⟨_, rfl, _, hD, sz1000 (by rw [strV_len]; exact Nat.le_trans (List.length_filter_le _ _) (Nat.le_trans (List.length_take_le' ..) (by have := (ok.wo r).2; omega))), Gx.app g nD hD rfl, ?_⟩
        rw [upd_same, strV_snoc, filt_yes hz (decide_eq_true h)]
      · rw [decide_eq_false h]
        refine iteF ⟨g, ?_⟩
        rw [filt_no hz (decide_eq_false h)]
        exact hD
    · rintro H' ⟨g, hD⟩
      rw [strV_len, List.take_length] at hD
      exact k D H' g nD hD
end
end K6

/-! ## KFair3 -/
set_option maxRecDepth 100000
set_option maxHeartbeats 4000000
/-! Fair.ask. -/
namespace K6
open PySem PySem.Spec PyProof.Rows L2
theorem setF_fun {α β : Type} (g : α → β) (f : Str → α) (x : Str) (v : α) : (fun k => g (DA.setF f x v k)) = DA.setF (fun k => g (f k)) x (g v) := by
  funext k
  unfold DA.setF
  by_cases e : k = x
  · rw [if_pos e, if_pos e]
  · rw [if_neg e, if_neg e]
theorem LstsAt.upd {H : Hp} {d x : Addr} {o : HO} {kvs : List (Key × V)} {ks : List Str} {f : Str → List Str} (h : LstsAt H d ks f) (hx : H x = some (.dK kvs)) (hd : d ≠ x) : LstsAt (upd H x o) d ks f := by
  obtain ⟨lp, e, r⟩ := h
  refine ⟨lp, ?_, fun k hk => ?_⟩
  · unfold Rd; rw [upd_ne hd]; exact e
  · obtain ⟨o', e', r'⟩ := r k hk
    exact ⟨o', by rw [upd_ne (ne_of e' hx (by intro z; cases z))]; exact e', r'⟩
theorem LstsAt.updI {H : Hp} {d x C dx : Addr} {o : HO} {fs : List (Str × V)} {ks : List Str} {f : Str → List Str} (h : LstsAt H d ks f) (hx : H x = some (.ins C dx fs)) : LstsAt (L2.upd H x o) d ks f := by
  obtain ⟨lp, e, r⟩ := h
  refine ⟨lp, ?_, fun k hk => ?_⟩
  · unfold Rd
    rcases e with e | ⟨o', e⟩
    · rw [upd_ne (ne_of e hx (by intro z; cases z))]; exact .inl e
    · rw [upd_ne (ne_of e hx (by intro z; cases z))]; exact .inr ⟨o', e⟩
  · obtain ⟨o', e', r'⟩ := r k hk
    exact ⟨o', by rw [upd_ne (ne_of e' hx (by intro z; cases z))]; exact e', r'⟩
theorem upd_inD {H : Hp} {b x C dx : Addr} {fs : List (Str × V)} {kvs : List (Key × V)} {o : HO} (h : H b = some (.ins C dx fs)) (hx : H x = some (.dK kvs)) : upd H x o b = some (.ins C dx fs) := by
  rw [upd_ne (ne_of h hx (by intro z; cases z))]; exact h
section
variable {a : Ad} {H : Hp} {F : FAd} {f : Fr}
theorem FairAt.ne (M : FairAt a H F f) : F.dl ≠ F.dr ∧ F.dl ≠ F.ds ∧ F.dl ≠ F.dh ∧ F.dl ≠ F.dn ∧ F.dr ≠ F.ds ∧ F.dr ≠ F.dh ∧ F.dr ≠ F.dn ∧ F.ds ≠ F.dh ∧ F.ds ≠ F.dn ∧ F.dh ≠ F.dn := by
  have := M.nd
  simp only [List.nodup_cons, List.mem_cons, List.not_mem_nil, or_false, not_or] at this
  obtain ⟨⟨a1, a2, a3, a4⟩, ⟨a5, a6, a7⟩, ⟨a8, a9⟩, a10, _⟩ := this
  exact ⟨a1, a2, a3, a4, a5, a6, a7, a8, a9, a10⟩
theorem FairAt.setN (M : FairAt a H F f) (nx' : Str → Nat) : FairAt a (upd H F.dn (.dK (dkF f.As fun k => .int (nx' k : Nat)))) F { f with nx := nx' } ∧ Gx a F.S H (upd H F.dn (.dK (dkF f.As fun k => .int (nx' k : Nat)))) := by
  obtain ⟨n1, n2, n3, n4, n5, n6, n7, n8, n9, n10⟩ := M.ne
  refine ⟨⟨⟨M.ins.imp fun _ h => upd_inD h M.n, M.l.upd M.n n4, M.o.upd M.n n7, by rw [upd_ne n9]; exact M.s, by rw [upd_ne n10]; exact M.h, upd_same⟩, M.wl.imp fun _ h => by rw [upd_ne n4]; exact h, M.wo.imp fun _ h => by rw [upd_ne n7]; exact h, M.nd⟩, Gx.set M.n rfl (by simp [FAd.S])⟩
theorem FairAt.setH (M : FairAt a H F f) (hd' : Str → Option Str) : FairAt a (upd H F.dh (.dK (dkF f.As fun k => optS (hd' k)))) F { f with hd := hd' } ∧ Gx a F.S H (upd H F.dh (.dK (dkF f.As fun k => optS (hd' k)))) := by
  obtain ⟨n1, n2, n3, n4, n5, n6, n7, n8, n9, n10⟩ := M.ne
  refine ⟨⟨⟨M.ins.imp fun _ h => upd_inD h M.h, M.l.upd M.h n3, M.o.upd M.h n6, by rw [upd_ne n8]; exact M.s, upd_same, by rw [upd_ne n10.symm]; exact M.n⟩, M.wl.imp fun _ h => by rw [upd_ne n3]; exact h, M.wo.imp fun _ h => by rw [upd_ne n6]; exact h, M.nd⟩, Gx.set M.h rfl (by simp [FAd.S])⟩
theorem FairAt.setA {n m : Int} (M : FairAt a H F f) (h : H F.p = some (.ins a.cF F.dx (ff F n))) : FairAt a (upd H F.p (.ins a.cF F.dx (putF "asks" (.int m) (ff F n)))) F f ∧ Gx a F.S H (upd H F.p (.ins a.cF F.dx (putF "asks" (.int m) (ff F n)))) := by
  have nd : ∀ {b : Addr} {kvs : List (Key × V)}, H b = some (.dK kvs) → b ≠ F.p := fun e => ne_of e h (by intro z; cases z)
  refine ⟨⟨⟨⟨m, by rw [upd_same, ff_put]⟩, M.l.updI h, M.o.updI h, by rw [upd_ne (nd M.s)]; exact M.s, by rw [upd_ne (nd M.h)]; exact M.h, by rw [upd_ne (nd M.n)]; exact M.n⟩, M.wl.imp fun _ e => by rw [upd_ne (nd e)]; exact e, M.wo.imp fun _ e => by rw [upd_ne (nd e)]; exact e, M.nd⟩, Gx.set h rfl (by simp [FAd.S])⟩
end
def spFAsk (a : Ad) : Sp := fun vs H Q _ => ∃ (F : FAd) (f : Fr) (x : Str) (ts : Str → Nat) (T : Nat), vs = [.ref F.p, .str x] ∧ FairAt a H F f ∧ f.Ok ∧ x ∈ f.As ∧ f.hd x = none ∧ f.nx x < (f.ls x).length ∧ DA.Inv f.m f.s ts T ∧
  ∀ y H' hd', FairAt a H' F { f with nx := DA.setF f.nx x (f.nx x + 1), hd := hd' } → Fr.Ok { f with nx := DA.setF f.nx x (f.nx x + 1), hd := hd' } → DA.Step f.m f.s x ⟨DA.setF f.nx x (f.nx x + 1), hd'⟩ → (∀ z, y = some z → z ∈ f.As ∧ hd' z = none) → Gx a F.S H H' → Q (optS y) H'
theorem idx_ne {α : Type} [DecidableEq α] {l : List α} {x y : α} (h : x ≠ y) : (x :: l).idxOf y = l.idxOf y + 1 := by
  rw [List.idxOf_cons, show (x == y) = false by simpa using h]
  rfl
/-- the last of a filtered list is the farthest -/
theorem filter_last {α : Type} [DecidableEq α] {p : α → Bool} {d : α} : ∀ {l init : List α}, l.Nodup → l.filter p = init ++ [d] → ∀ b, b ∈ l.filter p → l.idxOf b ≤ l.idxOf d
  | [], init, _, h, b, hb => by simp at hb
  | x :: l, init, nd, h, b, hb => by
    obtain ⟨n1, n2⟩ := List.nodup_cons.mp nd
    by_cases hbx : b = x
    · rw [hbx, List.idxOf_cons_self]; exact Nat.zero_le _
    · have hd : d ∈ (x :: l).filter p := by rw [h]; simp
      by_cases hp : p x = true
      · rw [List.filter_cons_of_pos hp] at h hb hd
        have hb' := (List.mem_cons.mp hb).resolve_left hbx
        cases init with
        | nil =>
          have : l.filter p = [] := by have := h; simp at this; simpa using this.2
          rw [this] at hb'; cases hb'
        | cons y init =>
          have h' : l.filter p = init ++ [d] := by
            have := h; simp only [List.cons_append, List.cons.injEq] at this; exact this.2
          have hdl : d ∈ l := (List.mem_filter.mp (by rw [h']; simp : d ∈ l.filter p)).1
          have hdx : d ≠ x := fun z => n1 (z ▸ hdl)
          have := filter_last n2 h' b hb'
          rw [idx_ne (Ne.symm hbx), idx_ne (Ne.symm hdx)]
          omega
      · rw [List.filter_cons_of_neg hp] at h hb hd
        have hdl : d ∈ l := (List.mem_filter.mp hd).1
        have hdx : d ≠ x := fun z => n1 (z ▸ hdl)
        have := filter_last n2 h b hb
        rw [idx_ne (Ne.symm hbx), idx_ne (Ne.symm hdx)]
        omega
theorem fask_law {M : DA.Mkt Str Str} {s : DA.St Str Str} {c r : Str} {ts : Str → Nat} {T : Nat} (G : DA.Good M) (I : DA.Inv M s ts T) (hc : s.hd c = none) (hr : (M.pref c)[s.nx c]? = some r) (ho : c ∈ M.ord r) :
    ((DA.inside M (DA.setF s.hd c (some r)) r).length ≤ M.seats r → DA.Step M s c ⟨DA.setF s.nx c (s.nx c + 1), DA.setF s.hd c (some r)⟩) ∧
    (∀ init d, M.seats r < (DA.inside M (DA.setF s.hd c (some r)) r).length → DA.inside M (DA.setF s.hd c (some r)) r = init ++ [d] → DA.Step M s c ⟨DA.setF s.nx c (s.nx c + 1), DA.setF (DA.setF s.hd c (some r)) d none⟩) := by
  have hl : (DA.inside M (DA.setF s.hd c (some r)) r).length = (DA.inside M s.hd r).length + 1 := by
    refine DA.length_filter_set (M.ord r) (G.no r) (c := c) (by simp [hc]) (by simp [DA.setF_same]) (fun x hx => ?_) ho
    rw [DA.setF_ne _ _ hx]
  have i3 := I.i3 r
  have mem : ∀ b, b ∈ DA.inside M s.hd r → b ∈ DA.inside M (DA.setF s.hd c (some r)) r ∧ b ≠ c := fun b hb => by
    have h := DA.mem_inside.mp hb
    have hbc : b ≠ c := fun z => by rw [z, hc] at h; cases h.2
    exact ⟨DA.mem_inside.mpr ⟨h.1, by rw [DA.setF_ne _ _ hbc]; exact h.2⟩, hbc⟩
  refine ⟨fun h => .free r hr ho (by omega), fun init d h e => ?_⟩
  have far := filter_last (G.no r) e
  by_cases hdc : d = c
  · subst hdc
    have := DA.Step.refuse (M := M) (s := s) (c := d) r hr ho (by omega) (fun b hb => by
      obtain ⟨h1, h2⟩ := mem b hb
      have h3 := far b h1
      have h4 : (M.ord r).idxOf b ≠ (M.ord r).idxOf d := fun z => h2 (DA.idx_inj (DA.mem_inside.mp hb).1 z)
      omega)
    have e2 : DA.setF (DA.setF s.hd d (some r)) d none = s.hd := by
      funext x
      unfold DA.setF
      by_cases e : x = d
      · rw [if_pos e, e, hc]
      · rw [if_neg e, if_neg e]
    rw [e2]; exact this
  · have hd : d ∈ DA.inside M (DA.setF s.hd c (some r)) r := by rw [e]; simp
    have hd' := DA.mem_inside.mp hd
    rw [DA.setF_ne _ _ hdc] at hd'
    refine .full r d hr ho (by omega) (DA.mem_inside.mpr hd') ?_ (fun b hb => far b (mem b hb).1)
    have hcm : c ∈ DA.inside M (DA.setF s.hd c (some r)) r := DA.mem_inside.mpr ⟨ho, DA.setF_same ..⟩
    have h3 := far c hcm
    have h4 : (M.ord r).idxOf d ≠ (M.ord r).idxOf c := fun z => hdc (DA.idx_inj hd'.1 z)
    omega
theorem Fr.Ok.nxhd {f : Fr} (ok : f.Ok) {x : Str} (hx : x ∈ f.As) (n : Nat) (hd' : Str → Option Str) (h : ∀ k, k ∉ f.As → hd' k = none) : Fr.Ok { f with nx := DA.setF f.nx x n, hd := hd' } :=
  ⟨ok.nA, ok.nR, ok.cA, ok.cR, fun k hk => ⟨(ok.dA k hk).1, by
    show DA.setF f.nx x n k = 0
    have hne : k ≠ x := fun z => hk (by show k ∈ f.As; rw [z]; exact hx)
    rw [DA.setF_ne _ _ hne]; exact (ok.dA k hk).2.1, h k hk⟩, ok.dR, ok.wl, ok.wo, ok.sA, ok.sL⟩
theorem Fr.Ok.good {f : Fr} (ok : f.Ok) : DA.Good f.m := ⟨fun k => (ok.wl k).1, fun k => (ok.wo k).1⟩
section
variable {P : Program} {w : World} {K : PySem.W.Frag} {mg : Str → Option Value} {base : Heap} {a : Ad}
theorem sc_F_ask : FnScope ["self", "asker", "room", "inside"] ["self", "asker"] (defScope s_F_ask) := ⟨rfl, rfl, rfl, by decide +kernel, rfl, by decide +kernel, by decide +kernel⟩
theorem ok_F_ask (T : Txt K mg base a) : FnOk P w K mg base CX0 2 a.f_F_ask a.d_F_ask ["self", "asker"] (spFAsk a) := by
  have GL : FnOk P w K mg base CX0 1 a.f_F_likes a.d_F_likes ["self", "asker", "room"] (spFLikes a) := ok_F_likes T
  have GT : FnOk P w K mg base CX0 1 a.f_F_those_in a.d_F_those_in ["self", "room"] (spFThose a) := ok_F_those_in T
  refine T.F_F_ask.ok sc_F_ask (fun vs H Q E h => ?_) (fun cdv A outer s H vs Q E hr h => ?_)
  · obtain ⟨F, f, x, ts, T, rfl, _⟩ := h
    rfl
  · obtain ⟨F, f, x, ts, Tm, rfl, M, ok, hx, hxn, hlt, I, k⟩ := h
    have hu := hu_of hr
    have nd := sc_F_ask.nd
    refine ⟨_, pss_cons (ps_set (i := 2) nd rfl (Or.inl rfl) (pe_ix ix_tup (pe_dget hu (pe_fld (pv 0) rfl) (pv 1) (fun _ _ => rfl)) (pe_dget hu (pe_fld (pv 0) rfl) (pv 1) (fun _ _ => rfl)) (fun _ _ => rfl)))
      (pss_cons (ps_daug hu (pe_fld (pv 0) rfl) (pv 1) pe_int in_add (fun _ _ _ => rfl))
      (pss_cons (ps_fldaug (pv 0) pe_int in_add)
      (pss_cons (ps_if (pt_not (pt_val (pe_meth (pv 0) T.cl_F T.m_F_likes GL hr T.b_F_likes .nil pass0 (pa_cons (pv 1) (pa_cons (pv 2) pa_nil))))) (pss_one (ps_ret (pv 1))) pss_nil)
      (pss_cons (ps_dput hu (pe_fld (pv 0) rfl) (pv 1) (pv 2) (by rfl))
      (pss_cons (ps_set (i := 3) nd rfl (Or.inl rfl) (pe_meth (pv 0) T.cl_F T.m_F_those_in GT hr T.b_F_those_in .nil pass0 (pa_cons (pv 2) pa_nil)))
      (pss_cons (ps_if (pt_cmpR op_le (pe_callB call_lenS (by rfl) T.z_len bt_len (pa_cons (pv 3) pa_nil)) (pe_dget hu (pe_fld (pv 0) rfl) (pv 2) (fun _ _ => rfl)) (nomark _)) (pss_one (ps_ret pe_non)) pss_nil)
      (pss_cons (ps_dput hu (pe_fld (pv 0) rfl) (pe_ix ix_list (pv 3) (pe_un un_neg pe_int) (fun _ _ => rfl)) pe_non (by rfl))
      (pss_one (ps_ret (pe_ix ix_list (pv 3) (pe_un un_neg pe_int) (fun _ _ => rfl))))))))))), ?_⟩
    obtain ⟨n0, hp⟩ := M.ins
    obtain ⟨lp, hl, hlp⟩ := M.l
    obtain ⟨r, hr'⟩ := get_lt (l := f.ls x) (i := f.nx x) hlt
    -- room = self.lists[asker][self.next[asker]]
    dsimp only [tNext, tSeq]
    refine ⟨_, rfl, F.p, a.cF, F.dx, _, _, rfl, hp, T.cl_F, T.n_F_lists, ff_lists, _, rfl, F.dl, _, rfl, dget_w hl hx, ?_⟩
    refine ⟨_, rfl, F.p, a.cF, F.dx, _, _, rfl, hp, T.cl_F, T.n_F_next, ff_next, _, rfl, F.dn, _, rfl, dget_w (.inl M.n) hx, lp x, _, _, _, rfl, rfl, (hlp x hx).sq, atI_nat (strV_at hr'), ?_⟩
    -- self.next[asker] += 1
    refine ⟨_, rfl, F.p, a.cF, F.dx, _, _, rfl, hp, T.cl_F, T.n_F_next, ff_next, ?_⟩
    have cA : f.As.length ≤ 1000 := Nat.le_trans ok.cA (by decide)
    refine ⟨_, rfl, F.dn, _, rfl, dget_w (.inl M.n) hx, _, _, rfl, rfl, _, dput_w M.n hx cA, ?_⟩
    have en : DA.setF (fun k => V.int (f.nx k : Nat)) x (V.int ((f.nx x : Int) + 1)) = fun k => V.int (DA.setF f.nx x (f.nx x + 1) k : Nat) := (setF_fun (fun n : Nat => V.int (n : Nat)) f.nx x (f.nx x + 1)).symm
    rw [en]
    obtain ⟨M1, g1⟩ := M.setN (DA.setF f.nx x (f.nx x + 1))
    generalize upd H F.dn _ = H1 at *
    have ok1 := ok.nxhd hx (f.nx x + 1) f.hd fun k hk => (ok.dA k hk).2.2
    -- self.asks += 1
    obtain ⟨n1, hp1⟩ := M1.ins
    refine ⟨_, rfl, F.p, a.cF, F.dx, _, _, rfl, hp1, T.cl_F, T.n_F_asks, ff_asks, _, _, rfl, rfl, _, _, hp1, (by show 6 < 1000; decide), ?_⟩
    obtain ⟨M2, g2⟩ := M1.setA (m := n1 + 1) hp1
    generalize upd H1 F.p _ = H2 at *
    have g02 := g1.trans g2
    -- if not self.likes(asker, room): return asker
    obtain ⟨n2, hp2⟩ := M2.ins
    refine ⟨_, rfl, F.p, F.dx, _, rfl, hp2, ff_no (by decide +kernel) (by decide +kernel) (by decide +kernel) (by decide +kernel) (by decide +kernel) (by decide +kernel), _, rfl, _, rfl, F, _, x, r, rfl, M2.toFairR, ok1, _, rfl, ?_⟩
    have hrm : r ∈ f.ls x := List.mem_of_getElem? hr'
    by_cases ho : x ∈ f.os r
    · have ed : decide (r ∈ f.ls x ∧ x ∈ f.os r) = true := decide_eq_true ⟨hrm, ho⟩
      dsimp only
      rw [ed]
      refine iteF ?_
      have hrR : r ∈ f.Rs := by
        refine Classical.byContradiction fun z => ?_
        rw [(ok.dR r z).1] at ho; cases ho
      obtain ⟨lw1, lw2⟩ := fask_law ok.good I hxn hr' ho
      -- self.held[asker] = room
      refine ⟨_, rfl, _, rfl, F.p, a.cF, F.dx, _, _, rfl, hp2, T.cl_F, T.n_F_held, ff_held, _, rfl, F.dh, _, rfl, dput_w M2.h hx cA, ?_⟩
      have eh : DA.setF (fun k => optS (f.hd k)) x (V.str r) = fun k => optS (DA.setF f.hd x (some r) k) := (setF_fun optS f.hd x (some r)).symm
      rw [eh]
      obtain ⟨M3, g3⟩ := M2.setH (DA.setF f.hd x (some r))
      generalize upd H2 F.dh _ = H3 at *
      have ok3 := ok.nxhd hx (f.nx x + 1) (DA.setF f.hd x (some r)) fun k hk => by
        have hne : k ≠ x := fun z => hk (z ▸ hx)
        rw [DA.setF_ne _ _ hne]; exact (ok.dA k hk).2.2
      have g03 := g02.trans g3
      -- inside = self.those_in(room)
      obtain ⟨n3, hp3⟩ := M3.ins
      refine ⟨_, rfl, F.p, F.dx, _, rfl, hp3, ff_no (by decide +kernel) (by decide +kernel) (by decide +kernel) (by decide +kernel) (by decide +kernel) (by decide +kernel), _, rfl, F, _, r, rfl, M3, ok3, hrR, fun D H4 g4 nD hD => ?_⟩
      have M4 := M3.gr g4
      obtain ⟨n4, hp4⟩ := M4.ins
      have g04 := g03.trans g4.to
      have hD : H4 D = some (.lst (strV (DA.inside f.m (DA.setF f.hd x (some r)) r))) := hD
      -- if len(inside) <= self.seats[room]: return None
      refine ⟨_, rfl, D, _, rfl, .inl (SqL.of hD), _, rfl, F.p, a.cF, F.dx, _, _, rfl, hp4, T.cl_F, T.n_F_seats, ff_seats, _, rfl, F.ds, _, rfl, dget_w (.inl M4.s) hrR, _, _, rfl, rfl, _, rfl, ?_⟩
      by_cases hle : (DA.inside f.m (DA.setF f.hd x (some r)) r).length ≤ f.st r
      · rw [show decide (((strV (DA.inside f.m (DA.setF f.hd x (some r)) r)).length : Int) ≤ ((f.st r : Nat) : Int)) = true from decide_eq_true (by rw [strV_len]; omega)]
        refine iteT ?_
        exact k none H4 _ M4 ok3 (lw1 hle) (fun z e => by cases e) g04
      · rw [show decide (((strV (DA.inside f.m (DA.setF f.hd x (some r)) r)).length : Int) ≤ ((f.st r : Nat) : Int)) = false from decide_eq_false (by rw [strV_len]; omega)]
        refine iteF ?_
        have hne : DA.inside f.m (DA.setF f.hd x (some r)) r ≠ [] := fun z => by rw [z] at hle; exact hle (Nat.zero_le _)
        obtain ⟨init, d, hid⟩ : ∃ init d, DA.inside f.m (DA.setF f.hd x (some r)) r = init ++ [d] := ⟨_, _, (List.dropLast_concat_getLast hne).symm⟩
        have hst := lw2 init d (Nat.lt_of_not_le hle) hid
        have hdm : d ∈ DA.inside f.m (DA.setF f.hd x (some r)) r := by rw [hid]; simp
        have hdA : d ∈ f.As := by
          refine Classical.byContradiction fun z => ?_
          have h1 := (DA.mem_inside.mp hdm).2
          have hne : d ≠ x := fun e => z (e ▸ hx)
          rw [DA.setF_ne _ _ hne, (ok.dA d z).2.2] at h1
          cases h1
        rw [hid] at hD
        have hlast : atI (strV (init ++ [d])) (-1) = some (V.str d) := by
          rw [← strV_snoc]; exact atI_last _ _
        -- self.held[inside[-1]] = None
        refine ⟨_, rfl, F.p, a.cF, F.dx, _, _, rfl, hp4, T.cl_F, T.n_F_held, ff_held, ?_⟩
        refine ⟨_, rfl, _, rfl, D, _, _, _, rfl, rfl, SqL.of hD, hlast, F.dh, _, rfl, dput_w M4.h hdA cA, ?_⟩
        have eh2 : DA.setF (fun k => optS (DA.setF f.hd x (some r) k)) d V.non = fun k => optS (DA.setF (DA.setF f.hd x (some r)) d none k) := (setF_fun optS (DA.setF f.hd x (some r)) d none).symm
        rw [eh2]
        obtain ⟨M5, g5⟩ := M4.setH (DA.setF (DA.setF f.hd x (some r)) d none)
        have hD5 : upd H4 F.dh (.dK (dkF f.As fun k => optS (DA.setF (DA.setF f.hd x (some r)) d none k))) D = _ := (upd_ne (ne_of hD M4.h (by intro z; cases z))).trans hD
        refine ⟨_, rfl, _, rfl, D, _, _, _, rfl, rfl, SqL.of hD5, hlast, ?_⟩
        refine k (some d) _ _ M5 (ok.nxhd hx (f.nx x + 1) _ fun q hq => ?_) hst (fun z e => ?_) (g04.trans g5)
        · by_cases e : q = d
          · rw [e, DA.setF_same]
          · have hne : q ≠ x := fun z => hq (z ▸ hx)
            rw [DA.setF_ne _ _ e, DA.setF_ne _ _ hne]; exact (ok.dA q hq).2.2
        · cases e
          exact ⟨hdA, DA.setF_same ..⟩
    · have ed : decide (r ∈ f.ls x ∧ x ∈ f.os r) = false := decide_eq_false fun z => ho z.2
      dsimp only
      rw [ed]
      refine iteT ?_
      refine ⟨_, rfl, ?_⟩
      exact k (some x) H2 f.hd M2 ok1 (.no r hr' ho) (fun z e => by cases e; exact ⟨hx, hxn⟩) g02
end
end K6

/-! ## KFair4 -/
set_option maxRecDepth 100000
set_option maxHeartbeats 4000000
/-! Fair.who_waits, go_on, ask_anew. -/
namespace K6
open PySem PySem.Spec PyProof.Rows L2
def spFWho (a : Ad) : Sp := fun vs H Q _ => ∃ (F : FAd) (f : Fr), vs = [.ref F.p] ∧ FairAt a H F f ∧ f.Ok ∧
  ∀ D H' ws, Gr a H H' → H D = none → H' D = some (.lst (strV ws)) → (∀ z, z ∈ ws ↔ z ∈ f.As ∧ f.hd z = none ∧ f.nx z < (f.ls z).length) → Q (.ref D) H'
theorem dpS {K : PySem.W.Frag} {H : Hp} : ∀ xs : List Str, (∀ z, z ∈ xs → PyData.strOk z = true) → ∃ ds, DpAll K H (strV xs) ds ∧ ds.length = (strV xs).length ∧ ∀ d, d ∈ ds → d.canLay0 = true ∧ d.depth ≤ 60
  | [], _ => ⟨[], .nil, rfl, fun _ z => by cases z⟩
  | x :: xs, hx => by
    obtain ⟨ds, h, e, q⟩ := dpS (K := K) (H := H) xs fun z hz => hx z (by simp [hz])
    refine ⟨.str x :: ds, .cons (.str _) h, by rw [List.length_cons, e]; rfl, fun d hd => ?_⟩
    rcases List.mem_cons.mp hd with rfl | hd
    · exact ⟨hx x (by simp), Nat.zero_le _⟩
    · exact q d hd
def spFGo (a : Ad) : Sp := fun vs H Q _ => ∃ (F : FAd) (f : Fr) (ts : Str → Nat) (T : Nat), vs = [.ref F.p] ∧ FairAt a H F f ∧ f.Ok ∧ DA.Inv f.m f.s ts T ∧
  ∀ v H' nx' hd', FairAt a H' F { f with nx := nx', hd := hd' } → Fr.Ok { f with nx := nx', hd := hd' } → DA.Final f.m ⟨nx', hd'⟩ → Gx a F.S H H' → Q v H'
def tot (l : List Str) (n : Str → Nat) : Nat := (l.map n).sum
theorem tot_out {l : List Str} {n : Str → Nat} {x : Str} {v : Nat} (h : x ∉ l) : tot l (DA.setF n x v) = tot l n := by
  unfold tot
  congr 1
  refine List.map_congr_left fun y hy => ?_
  rw [DA.setF_ne _ _ fun z => h (by rw [← z]; exact hy)]
theorem tot_set : ∀ {l : List Str} {n : Str → Nat} {x : Str}, l.Nodup → x ∈ l → tot l (DA.setF n x (n x + 1)) = tot l n + 1
  | [], _, _, _, h => by cases h
  | y :: l, n, x, nd, h => by
    obtain ⟨n1, n2⟩ := List.nodup_cons.mp nd
    show DA.setF n x (n x + 1) y + tot l _ = n y + tot l n + 1
    by_cases e : x = y
    · subst e
      rw [tot_out n1, DA.setF_same]; omega
    · rw [tot_set n2 ((List.mem_cons.mp h).resolve_left e), DA.setF_ne _ _ (Ne.symm e)]; omega
theorem tot_le {l : List Str} {n m : Str → Nat} (h : ∀ x, n x ≤ m x) : tot l n ≤ tot l m := by
  unfold tot
  induction l with
  | nil => exact Nat.le_refl _
  | cons y l ih =>
    have := h y
    simp only [List.map_cons, List.sum_cons]
    omega
section
variable {P : Program} {w : World} {K : PySem.W.Frag} {mg : Str → Option Value} {base : Heap} {a : Ad}
theorem sc_F_who : FnScope ["self", "one"] ["self"] (defScope s_F_who_waits) := ⟨rfl, rfl, rfl, by decide +kernel, rfl, by decide +kernel, by decide +kernel⟩
theorem ok_F_who (T : Txt K mg base a) : FnOk P w K mg base CX0 1 a.f_F_who_waits a.d_F_who_waits ["self"] (spFWho a) := by
  refine T.F_F_who_waits.ok sc_F_who (fun vs H Q E h => ?_) (fun cdv A outer s H vs Q E hr h => ?_)
  · obtain ⟨F, f, rfl, _⟩ := h
    rfl
  · obtain ⟨F, f, rfl, M, ok, k⟩ := h
    have hu := hu_of hr
    have nd := sc_F_who.nd
    refine ⟨_, pss_one (ps_ret (pe_lc (own := [("one", 1)]) (g := gName 1) (te := tVar 1) rfl nd (pi_list (pe_callB (call_sortedD rfl) (by rfl) T.z_sorted bt_sorted (pa_cons (pe_fld (pv 0) rfl) pa_nil))) (blkOk_by (N := ["self", "one"]) (sc := defScope s_F_who_waits) (by decide +kernel))
          (fun _ _ _ _ _ => pg_name (i := 1) nd rfl (Or.inl rfl)) (fun _ _ _ _ _ => pts_one (PW.pt (pw_and (pt_cmpR (ta := tDGet (tFld K (tVar 0) "held") (tVar 1)) op_isN (pe_dget hu (pe_fld (pv 0) rfl) (pv 1) (fun _ _ => rfl)) pe_non (nomark _))
            (pw_and1 (pt_cmpR (ta := tDGet (tFld K (tVar 0) "next") (tVar 1)) (tb := tCB (rLenS K) (tCons (tDGet (tFld K (tVar 0) "lists") (tVar 1)) tNil)) op_lt (pe_dget hu (pe_fld (pv 0) rfl) (pv 1) (fun _ _ => rfl)) (pe_callB call_lenS (by rfl) T.z_len bt_len (pa_cons (pe_dget hu (pe_fld (pv 0) rfl) (pv 1) (fun _ _ => rfl)) pa_nil)) (nomark _)))))) (fun _ _ _ _ _ => pv 1))), ?_⟩
    obtain ⟨n, hp⟩ := M.ins
    obtain ⟨lp, hl, hlp⟩ := M.l
    refine ⟨_, rfl, F.p, a.cF, F.dx, _, _, rfl, hp, T.cl_F, T.n_F_lists, ff_lists, F.dl, _, f.As, rfl, hl, dkF_keys, by have := ok.cA; omega, fun ys p1 hperm hsort np1 => ?_⟩
    have hys : ∀ z, z ∈ ys ↔ z ∈ f.As := fun z => hperm.mem_iff
    have g1 : Gr a H (upd H p1 (.lst (ys.map V.str))) := Gx.new np1
    refine ⟨p1, rfl, ⟨_, SqL.of upd_same⟩, fun D nD => ?_⟩
    refine lc_list (K := K) (a := p1) (xs := strV ys) (fun i H' => Gr a (upd H p1 (.lst (ys.map V.str))) H' ∧ H' D = some (.lst (strV ((ys.take i).filter fun z => decide (f.hd z = none) && decide (f.nx z < (f.ls z).length))))) ⟨Gx.new nD, upd_same⟩ (fun i H' _ ⟨g, _⟩ => SqL.of (Gr.lst g upd_same)) ?_ ?_
    · rintro i x H' hx ⟨g, hD⟩
      obtain ⟨z, hz, rfl⟩ := strV_get hx
      have hzA : z ∈ f.As := (hys z).mp (List.mem_of_getElem? hz)
      have M' := M.gr (g1.trans g)
      obtain ⟨n', hp'⟩ := M'.ins
      obtain ⟨lp', hl', hlp'⟩ := M'.l
      refine ⟨rfl, ?_⟩
      refine ⟨_, rfl, F.p, a.cF, F.dx, _, _, rfl, hp', T.cl_F, T.n_F_held, ff_held, _, rfl, F.dh, _, rfl, dget_w (.inl M'.h) hzA, rfl, _, rfl, ?_⟩
      have fin : ∀ b : Bool, (decide (f.hd z = none) && decide (f.nx z < (f.ls z).length)) = b → if b = true then tVar 1 [some (V.ref F.p), some (V.str z)] H' (fun y H4 => ∃ acc, H4 D = some (.lst acc) ∧ acc.length < sizeLine ∧ (Gr a (upd H p1 (.lst (ys.map V.str))) (upd H4 D (.lst (acc ++ [y]))) ∧ upd H4 D (.lst (acc ++ [y])) D = some (.lst (strV ((ys.take (i + 1)).filter fun z => decide (f.hd z = none) && decide (f.nx z < (f.ls z).length)))))) else (Gr a (upd H p1 (.lst (ys.map V.str))) H' ∧ H' D = some (.lst (strV ((ys.take (i + 1)).filter fun z => decide (f.hd z = none) && decide (f.nx z < (f.ls z).length))))) := by
        intro b hb
        have hlen : ys.length ≤ 10 := by rw [hperm.length_eq]; exact ok.cA
        cases b with
        | true =>
          refine iteT ?_
          refine ⟨_, rfl, _, hD, sz1000 (by rw [strV_len]; exact Nat.le_trans (List.length_filter_le _ _) (Nat.le_trans (List.length_take_le' ..) (by omega))), Gx.app g nD hD rfl, ?_⟩
          rw [upd_same, strV_snoc, filt_yes hz hb]
        | false =>
          refine iteF ⟨g, ?_⟩
          rw [filt_no hz hb]
          exact hD
      cases hh : f.hd z with
      | some q =>
        refine iteF ?_
        exact fin false (by rw [hh]; rfl)
      | none =>
        refine iteT ?_
        refine ⟨_, rfl, F.p, a.cF, F.dx, _, _, rfl, hp', T.cl_F, T.n_F_next, ff_next, _, rfl, F.dn, _, rfl, dget_w (.inl M'.n) hzA, ?_⟩
        refine ⟨_, rfl, F.p, a.cF, F.dx, _, _, rfl, hp', T.cl_F, T.n_F_lists, ff_lists, _, rfl, F.dl, _, rfl, dget_w hl' hzA, lp' z, _, rfl, .inr (hlp' z hzA).sq, _, _, rfl, rfl, _, rfl, ?_⟩
        refine fin _ ?_
        rw [hh, strV_len]
        by_cases h : f.nx z < (f.ls z).length
        · rw [decide_eq_true h, decide_eq_true (show ((f.nx z : Nat) : Int) < ((f.ls z).length : Int) by omega)]; rfl
        · rw [decide_eq_false h, decide_eq_false (show ¬ ((f.nx z : Nat) : Int) < ((f.ls z).length : Int) by omega)]; rfl
    · rintro H' ⟨g, hD⟩
      rw [strV_len, List.take_length] at hD
      refine k D H' _ (g1.trans g) (g1.free _ nD) hD fun z => ?_
      rw [List.mem_filter, hys z, Bool.and_eq_true, decide_eq_true_eq, decide_eq_true_eq]
def hereB (nx : Str → Nat) (ls : Str → List Str) : Option Str → Bool
  | none => false
  | some z => decide (nx z < (ls z).length)
theorem here_test {H : Hp} {F : FAd} {f : Fr} {D : Option V} {y : Option Str} {Q : Bool → Hp → Prop} (T : Txt K mg base a) (M : FairR a H F f) (hy : ∀ z, y = some z → z ∈ f.As) (k : Q (hereB f.nx f.ls y) H) :
    tAnd (tTest (tOp (fun x y H Q => y = V.non ∧ Q (V.bl !decide (x = V.non)) H) (tVar 2) (tC V.non))) (tTest (tOp (rI0 fun i j => V.bl (decide (i < j))) (tDGet (tFld K (tVar 0) "next") (tVar 2)) (tCB (rLenS K) (tCons (tDGet (tFld K (tVar 0) "lists") (tVar 2)) tNil)))) [some (V.ref F.p), D, some (optS y)] H Q := by
  obtain ⟨n, hp⟩ := M.ins
  obtain ⟨lp, hl, hlp⟩ := M.l
  refine ⟨_, rfl, rfl, _, rfl, ?_⟩
  cases y with
  | none => exact iteF k
  | some z =>
    refine iteT ?_
    have hz := hy z rfl
    refine ⟨_, rfl, F.p, a.cF, F.dx, _, _, rfl, hp, T.cl_F, T.n_F_next, ff_next, _, rfl, F.dn, _, rfl, dget_w (.inl M.n) hz, ?_⟩
    refine ⟨_, rfl, F.p, a.cF, F.dx, _, _, rfl, hp, T.cl_F, T.n_F_lists, ff_lists, _, rfl, F.dl, _, rfl, dget_w hl hz, lp z, _, rfl, .inr (hlp z hz).sq, _, _, rfl, rfl, _, rfl, ?_⟩
    have e : decide (((f.nx z : Nat) : Int) < ((strV (f.ls z)).length : Int)) = hereB f.nx f.ls (some z) := by
      rw [strV_len]
      show _ = decide (f.nx z < (f.ls z).length)
      by_cases h : f.nx z < (f.ls z).length
      · rw [decide_eq_true h, decide_eq_true (show ((f.nx z : Nat) : Int) < ((f.ls z).length : Int) by omega)]
      · rw [decide_eq_false h, decide_eq_false (show ¬ ((f.nx z : Nat) : Int) < ((f.ls z).length : Int) by omega)]
    rw [e]
    exact k
theorem sc_F_go_on : FnScope ["self", "waiting", "here"] ["self"] (defScope s_F_go_on) := ⟨rfl, rfl, rfl, by decide +kernel, rfl, by decide +kernel, by decide +kernel⟩
theorem ok_F_go_on (T : Txt K mg base a) : FnOk P w K mg base CX0 3 a.f_F_go_on a.d_F_go_on ["self"] (spFGo a) := by
  have GW : FnOk P w K mg base CX0 1 a.f_F_who_waits a.d_F_who_waits ["self"] (spFWho a) := ok_F_who T
  have GA : FnOk P w K mg base CX0 2 a.f_F_ask a.d_F_ask ["self", "asker"] (spFAsk a) := ok_F_ask T
  refine T.F_F_go_on.ok sc_F_go_on (fun vs H Q E h => ?_) (fun cdv A outer s H vs Q E hr h => ?_)
  · obtain ⟨F, f, ts, T, rfl, _⟩ := h
    rfl
  · obtain ⟨F, f, ts, Tm, rfl, M, ok, I, k⟩ := h
    have hu := hu_of hr
    have nd := sc_F_go_on.nd
    have hr1 : Room 1 _ := hr.mono (by decide)
    refine ⟨_, pss_cons (ps_set (i := 1) nd rfl (Or.inl rfl) (pe_meth0 (pv 0) T.cl_F T.m_F_who_waits GW hr1 T.b_F_who_waits .nil pass0))
      (pss_one (ps_while PassesOwn.never (pt_cmpR (op_neD hr.units) (pv 1) (pe_lst pa_nil) (nomark _))
        (pss_cons (ps_set (i := 2) nd rfl (Or.inl rfl) (pe_ix ix_list (pv 1) pe_int (fun _ _ => rfl)))
        (pss_cons (ps_while PassesOwn.never (PW.pt (pw_and (pt_cmpR op_notN (pv 2) pe_non (nomark _))
            (pw_and1 (pt_cmpR op_lt (pe_dget hu (pe_fld (pv 0) rfl) (pv 2) (fun _ _ => rfl)) (pe_callB call_lenS (by rfl) T.z_len bt_len (pa_cons (pe_dget hu (pe_fld (pv 0) rfl) (pv 2) (fun _ _ => rfl)) pa_nil)) (nomark _)))))
          (pss_one (ps_set (i := 2) nd rfl (Or.inl rfl) (pe_meth (pv 0) T.cl_F T.m_F_ask GA hr T.b_F_ask .nil pass0 (pa_cons (pv 2) pa_nil)))))
        (pss_one (ps_set (i := 1) nd rfl (Or.inl rfl) (pe_meth0 (pv 0) T.cl_F T.m_F_who_waits GW hr1 T.b_F_who_waits .nil pass0))))))), ?_⟩
    dsimp only [tNext, tSeq, tAsg]
    obtain ⟨n, hp⟩ := M.ins
    have nof : ∀ n, (ff F n).lookup ("who_waits" : Str) = none := fun n => ff_no (by decide +kernel) (by decide +kernel) (by decide +kernel) (by decide +kernel) (by decide +kernel) (by decide +kernel)
    have nof2 : ∀ n, (ff F n).lookup ("ask" : Str) = none := fun n => ff_no (by decide +kernel) (by decide +kernel) (by decide +kernel) (by decide +kernel) (by decide +kernel) (by decide +kernel)
    refine ⟨_, rfl, F.p, F.dx, _, rfl, hp, nof _, F, f, rfl, M, ok, fun D H1 ws g1 nD hD hws => ?_⟩
    dsimp only [gName]
    generalize hB : tot f.As (fun x => (f.ls x).length) + 1 = B
    have bnd : ∀ {nx hd ts T}, DA.Inv f.m ⟨nx, hd⟩ ts T → tot f.As nx < B := fun {nx hd ts T} J => by
      rw [← hB]
      exact Nat.lt_succ_of_le (tot_le fun x => J.i0 x)
    refine ⟨fun q σ H' => ∃ (nx' : Str → Nat) (hd' : Str → Option Str) (D : Addr) (v : Option V) (ws : List Str), σ = [some (.ref F.p), some (.ref D), v] ∧ q = B - tot f.As nx' ∧ FairAt a H' F { f with nx := nx', hd := hd' } ∧ Fr.Ok { f with nx := nx', hd := hd' } ∧
      (∃ ts T, DA.Inv f.m ⟨nx', hd'⟩ ts T) ∧ Gx a F.S H H' ∧ H' D = some (.lst (strV ws)) ∧ ∀ z, z ∈ ws ↔ z ∈ f.As ∧ hd' z = none ∧ nx' z < (f.ls z).length, ⟨_, f.nx, f.hd, D, none, ws, rfl, rfl, M.gr g1, ok, ⟨ts, Tm, I⟩, g1.to, hD, hws⟩, ?_⟩
    rintro q σ H2 ⟨nx2, hd2, D2, v2, ws2, rfl, rfl, M2, ok2, ⟨ts2, T2, I2⟩, g2, hD2, hws2⟩
    refine ⟨_, rfl, Nat.zero_le _, fun e ne => ?_⟩
    refine ne_nilG (SqL.of (new_keep hD2 ne)) (dpS _ fun z hz => ok.sA z ((hws2 z).mp hz).1) (SqL.of upd_same) ⟨_, rfl, ?_⟩
    have M3 := M2.gr (Gx.new (o := .lst []) ne)
    have hD3 := new_keep (o := .lst []) hD2 ne
    have g3 : Gx a F.S H (upd H2 e (.lst [])) := g2.trans (Gx.new ne)
    generalize upd H2 e (.lst []) = H3 at *
    cases ws2 with
    | nil =>
      refine iteF ?_
      refine k _ H3 nx2 hd2 M3 ok2 ⟨⟨ts2, T2, I2⟩, fun x hx => ?_⟩ g3
      show (f.ls x).length ≤ nx2 x
      by_cases hxA : x ∈ f.As
      · refine Nat.le_of_not_lt fun z => ?_
        have := (hws2 x).mpr ⟨hxA, hx, z⟩
        cases this
      · rw [(ok2.dA x hxA).1]; exact Nat.zero_le _
    | cons x0 rest =>
      refine iteT ?_
      obtain ⟨hxA, hxn, hxl⟩ := (hws2 x0).mp (by simp)
      have h0' : atI (strV (x0 :: rest)) ((0 : Nat) : Int) = some (V.str x0) := atI_nat (strV_at rfl)
      refine ⟨_, fun _ _ h => h, ?_⟩
      refine ⟨_, rfl, D2, _, _, _, rfl, rfl, SqL.of hD3, h0', ?_⟩
      -- the inner loop
      refine ⟨fun q σ H' => ∃ (nx' : Str → Nat) (hd' : Str → Option Str) (y : Option Str), σ = [some (.ref F.p), some (.ref D2), some (optS y)] ∧ q = B - tot f.As nx' ∧ FairAt a H' F { f with nx := nx', hd := hd' } ∧ Fr.Ok { f with nx := nx', hd := hd' } ∧
        (∃ ts T, DA.Inv f.m ⟨nx', hd'⟩ ts T) ∧ Gx a F.S H H' ∧ (∀ z, y = some z → z ∈ f.As ∧ hd' z = none) ∧ (tot f.As nx2 < tot f.As nx' ∨ (nx' = nx2 ∧ y = some x0)), ⟨_, nx2, hd2, some x0, rfl, rfl, M3, ok2, ⟨ts2, T2, I2⟩, g3, fun z e => by cases e; exact ⟨hxA, hxn⟩, .inr ⟨rfl, rfl⟩⟩, ?_⟩
      rintro q σ H4 ⟨nx4, hd4, y, rfl, rfl, M4, ok4, ⟨ts4, T4, I4⟩, g4, hy, hm⟩
      obtain ⟨n4, hp4⟩ := M4.ins
      obtain ⟨lp4, hl4, hlp4⟩ := M4.l
      refine here_test T M4.toFairR (fun z e => (hy z e).1) ?_
      have hex : hereB nx4 f.ls y = false → tot f.As nx2 < tot f.As nx4 := fun hf => by
        rcases hm with h | ⟨e1, e2⟩
        · exact h
        · subst e1; subst e2
          have hf : decide (nx4 x0 < (f.ls x0).length) = false := hf
          rw [decide_eq_true hxl] at hf
          cases hf
      cases hB4 : hereB nx4 f.ls y with
      | false =>
        refine iteF ?_
        have hlt := hex hB4
        -- waiting = self.who_waits()
        refine ⟨_, rfl, F.p, F.dx, _, rfl, hp4, nof _, F, _, rfl, M4, ok4, fun D5 H5 ws5 g5 nD5 hD5 hws5 => ?_⟩
        refine ⟨_, ?_, nx4, hd4, D5, _, ws5, rfl, rfl, M4.gr g5, ok4, ⟨ts4, T4, I4⟩, g4.trans g5.to, hD5, hws5⟩
        have := bnd I4
        omega
      | true =>
        refine iteT ?_
        obtain ⟨z, rfl, hz⟩ : ∃ z, y = some z ∧ nx4 z < (f.ls z).length := by
          unfold hereB at hB4
          cases y with
          | none => cases hB4
          | some z => exact ⟨z, rfl, of_decide_eq_true hB4⟩
        obtain ⟨hzA, hzn⟩ := hy z rfl
        refine ⟨_, fun _ _ h => h, ?_⟩
        refine ⟨_, rfl, F.p, F.dx, _, rfl, hp4, nof2 _, _, rfl, F, _, z, ts4, T4, rfl, M4, ok4, hzA, hzn, hz, I4, fun y6 H6 hd6 M6 ok6 st6 hy6 g6 => ?_⟩
        have et := tot_set (n := nx4) ok.nA hzA
        have hi := DA.step_keeps ok.good I4 hzn st6
        refine ⟨_, ?_, _, hd6, y6, rfl, rfl, M6, ok6, hi, g4.trans g6, hy6, ?_⟩
        · obtain ⟨_, _, hi'⟩ := hi
          have : tot f.As (DA.setF nx4 z (nx4 z + 1)) < B := bnd hi'
          show B - tot f.As (DA.setF nx4 z (nx4 z + 1)) < _
          omega
        · left
          show _ < tot f.As (DA.setF nx4 z (nx4 z + 1))
          rcases hm with h | ⟨rfl, _⟩
          · omega
          · omega
end
end K6

/-! ## KFair5 -/
set_option maxRecDepth 100000
set_option maxHeartbeats 4000000
/-! Fair.ask_anew, part_of. -/
namespace K6
open PySem PySem.Spec PyProof.Rows L2
def anewF (zs : List Str) (f : Fr) : Fr := { f with nx := fun k => if decide (k ∈ zs) = true then 0 else f.nx k, hd := fun k => if decide (k ∈ zs) = true then none else f.hd k }
theorem anewF_s (zs : List Str) (f : Fr) : (anewF zs f).s = DA.anew (fun k => decide (k ∈ zs)) f.s := rfl
theorem anewF_snoc {zs : List Str} {f : Fr} {z : Str} : anewF (zs ++ [z]) f = { f with nx := DA.setF (anewF zs f).nx z 0, hd := DA.setF (anewF zs f).hd z none } := by
  unfold anewF DA.setF
  congr 1
  · funext k
    by_cases h : k = z
    · simp [h]
    · by_cases h2 : k ∈ zs <;> simp [h, h2]
  · funext k
    by_cases h : k = z
    · simp [h]
    · by_cases h2 : k ∈ zs <;> simp [h, h2]
theorem anewF_ok {zs : List Str} {f : Fr} (ok : f.Ok) : (anewF zs f).Ok :=
  ⟨ok.nA, ok.nR, ok.cA, ok.cR, fun k hk => ⟨(ok.dA k hk).1, by
    show (if decide (k ∈ zs) = true then 0 else f.nx k) = 0
    rw [(ok.dA k hk).2.1]; split <;> rfl, by
    show (if decide (k ∈ zs) = true then none else f.hd k) = none
    rw [(ok.dA k hk).2.2]; split <;> rfl⟩, ok.dR, ok.wl, ok.wo, ok.sA, ok.sL⟩
theorem FairAt.lstOut {a : Ad} {H : Hp} {F : FAd} {f : Fr} (M : FairAt a H F f) {t : Addr} {xs : List V} (h : H t = some (.lst xs)) : t ∉ F.S := by
  obtain ⟨n, hp⟩ := M.ins
  obtain ⟨_, hl⟩ := M.wl
  obtain ⟨_, ho⟩ := M.wo
  have hs := M.s
  have hh := M.h
  have hn := M.n
  intro z
  simp only [FAd.S, List.mem_cons, List.not_mem_nil, or_false] at z
  rcases z with rfl | rfl | rfl | rfl | rfl | rfl
  · rw [h] at hp; cases hp
  · rw [h] at hl; cases hl
  · rw [h] at ho; cases ho
  · rw [h] at hs; cases hs
  · rw [h] at hh; cases hh
  · rw [h] at hn; cases hn
def spFAnew (a : Ad) : Sp := fun vs H Q _ => ∃ (F : FAd) (f : Fr) (t : Addr) (zs : List Str) (ts : Str → Nat) (T : Nat), vs = [.ref F.p, .ref t] ∧ FairAt a H F f ∧ f.Ok ∧ H t = some (.lst (strV zs)) ∧ (∀ z, z ∈ zs → z ∈ f.As) ∧ DA.Inv f.m (DA.anew (fun k => decide (k ∈ zs)) f.s) ts T ∧
  ∀ v H' nx' hd', FairAt a H' F { f with nx := nx', hd := hd' } → Fr.Ok { f with nx := nx', hd := hd' } → DA.Final f.m ⟨nx', hd'⟩ → Gx a F.S H H' → Q v H'
section
variable {P : Program} {w : World} {K : PySem.W.Frag} {mg : Str → Option Value} {base : Heap} {a : Ad}
theorem sc_F_anew : FnScope ["self", "askers", "asker"] ["self", "askers"] (defScope s_F_ask_anew) := ⟨rfl, rfl, rfl, by decide +kernel, rfl, by decide +kernel, by decide +kernel⟩
theorem ok_F_anew (T : Txt K mg base a) : FnOk P w K mg base CX0 4 a.f_F_ask_anew a.d_F_ask_anew ["self", "askers"] (spFAnew a) := by
  have GG : FnOk P w K mg base CX0 3 a.f_F_go_on a.d_F_go_on ["self"] (spFGo a) := ok_F_go_on T
  refine T.F_F_ask_anew.ok sc_F_anew (fun vs H Q E h => ?_) (fun cdv A outer s H vs Q E hr h => ?_)
  · obtain ⟨F, f, t, zs, ts, T, rfl, _⟩ := h
    rfl
  · obtain ⟨F, f, t, zs, ts, Tm, rfl, M, ok, ht, hz, I, k⟩ := h
    have hu := hu_of hr
    have nd := sc_F_anew.nd
    refine ⟨_, pss_cons (ps_for PassesOwn.never rfl (pi_list (pv 1)) (pg_name (i := 2) nd rfl (Or.inl rfl))
        (pss_cons (ps_dput hu (pe_fld (pv 0) rfl) (pv 2) pe_non (by rfl)) (pss_one (ps_dput hu (pe_fld (pv 0) rfl) (pv 2) pe_int (by rfl)))))
      (pss_one (ps_expr (pe_meth0 (pv 0) T.cl_F T.m_F_go_on GG hr T.b_F_go_on .nil pass0))), ?_⟩
    have cA : f.As.length ≤ 1000 := Nat.le_trans ok.cA (by decide)
    refine ⟨_, rfl, t, rfl, ⟨_, SqL.of ht⟩, ?_⟩
    have tS := M.lstOut ht
    refine for_list (K := K) (a := t) (xs := strV zs) (fun i σ H' => ∃ v, σ = [some (.ref F.p), some (.ref t), v] ∧ FairAt a H' F (anewF (zs.take i) f) ∧ Gx a F.S H H') ⟨none, rfl, M, Gx.refl⟩ (fun i σ H' _ ⟨_, _, _, g⟩ => SqL.of (g.lst ht tS)) ?_ ?_
    · rintro i x σ H1 hx ⟨v, rfl, M1, g1⟩
      obtain ⟨z, hzi, rfl⟩ := strV_get hx
      have hzA := hz z (List.mem_of_getElem? hzi)
      obtain ⟨n1, hp1⟩ := M1.ins
      refine ⟨_, rfl, F.p, a.cF, F.dx, _, _, rfl, hp1, T.cl_F, T.n_F_held, ff_held, _, rfl, F.dh, _, rfl, dput_w M1.h hzA cA, ?_⟩
      have eh : DA.setF (fun k => optS ((anewF (zs.take i) f).hd k)) z V.non = fun k => optS (DA.setF (anewF (zs.take i) f).hd z none k) := (setF_fun optS (anewF (zs.take i) f).hd z none).symm
      rw [eh]
      obtain ⟨M2, g2⟩ := M1.setH (DA.setF (anewF (zs.take i) f).hd z none)
      generalize upd H1 F.dh _ = H2 at *
      obtain ⟨n2, hp2⟩ := M2.ins
      refine ⟨_, rfl, F.p, a.cF, F.dx, _, _, rfl, hp2, T.cl_F, T.n_F_next, ff_next, _, rfl, F.dn, _, rfl, dput_w M2.n hzA cA, ?_⟩
      have en : DA.setF (fun k => V.int ((anewF (zs.take i) f).nx k : Nat)) z (V.int 0) = fun k => V.int (DA.setF (anewF (zs.take i) f).nx z 0 k : Nat) := (setF_fun (fun n : Nat => V.int (n : Nat)) (anewF (zs.take i) f).nx z 0).symm
      obtain ⟨M3, g3⟩ := M2.setN (DA.setF (anewF (zs.take i) f).nx z 0)
      refine ⟨_, rfl, ?_, ?_⟩
      · rw [take_snoc hzi, anewF_snoc]
        have en' : DA.setF (fun k => V.int (({ anewF (zs.take i) f with hd := DA.setF (anewF (zs.take i) f).hd z none } : Fr).nx k : Nat)) z (V.int 0) = fun k => V.int (DA.setF (anewF (zs.take i) f).nx z 0 k : Nat) := en
        rw [en']
        exact M3
      · have en' : DA.setF (fun k => V.int (({ anewF (zs.take i) f with hd := DA.setF (anewF (zs.take i) f).hd z none } : Fr).nx k : Nat)) z (V.int 0) = fun k => V.int (DA.setF (anewF (zs.take i) f).nx z 0 k : Nat) := en
        rw [en']
        exact g1.trans (g2.trans g3)
    · rintro σ H1 ⟨v, rfl, M1, g1⟩
      rw [strV_len, List.take_length] at M1
      obtain ⟨n1, hp1⟩ := M1.ins
      refine ⟨_, rfl, F.p, F.dx, _, rfl, hp1, ff_no (by decide +kernel) (by decide +kernel) (by decide +kernel) (by decide +kernel) (by decide +kernel) (by decide +kernel), F, anewF zs f, ts, Tm, rfl, M1, anewF_ok ok, I, fun v2 H2 nx2 hd2 M2 ok2 F2 g2 => ?_⟩
      exact k _ H2 nx2 hd2 M2 ok2 F2 (g1.trans g2)
end
end K6

/-! ## KFair6 -/
set_option maxRecDepth 100000
set_option maxHeartbeats 4000000
/-! Fair.part_of. -/
namespace K6
open PySem PySem.Spec PyProof.Rows L2
theorem Tb.set {a : Ad} {H : Hp} {p : Addr} {o o' : HO} (t : Tb a H) (h : H p = some o) (hn : plain o = true) : Tb a (upd H p o') := (Gx.set (S := [p]) h hn (by simp)).tb t
/-- behind a lock -/
theorem Gr.unlock {a : Ad} {H H' : Hp} {d : Addr} {u : HO} {od : Obj} (hd : H d = some u) (hp : plain u = true) (g : Gr a (upd H d (.frz od u)) H') (h' : H' d = some (.frz od u)) : Gr a H (upd H' d u) := by
  refine ⟨fun b o e _ n => ?_, fun t => ?_, fun b e => ?_⟩
  · by_cases hb : b = d
    · rw [hb, upd_same, ← hd, ← hb]; exact e
    · rw [upd_ne hb]
      exact g.keep b o (by rw [upd_ne hb]; exact e) (by simp) n
  · exact (g.tb (t.set hd hp)).set h' rfl
  · by_cases hb : b = d
    · rw [hb, upd_same] at e; cases e
    · rw [upd_ne hb] at e
      have := g.free b e
      rw [upd_ne hb] at this
      exact this
/-- a fair, one of its two dicts locked -/
theorem FairR.lockL {a : Ad} {H : Hp} {F : FAd} {f : Fr} {od : Obj} {d : Addr} {kvs : List (Key × V)} (M : FairR a H F f) (hd : H d = some (.dK kvs)) (h1 : d = F.dl ∨ d = F.dr) (n1 : d ≠ F.ds ∧ d ≠ F.dh ∧ d ≠ F.dn) : FairR a (upd H d (.frz od (.dK kvs))) F f := by
  have lst : ∀ {e : Addr} {ks : List Str} {g : Str → List Str}, LstsAt H e ks g → LstsAt (upd H d (.frz od (.dK kvs))) e ks g := fun {e ks g} ⟨lp, e1, e2⟩ => by
    refine ⟨lp, ?_, fun k hk => ?_⟩
    · by_cases he : e = d
      · rw [he] at e1 ⊢
        rcases e1 with e1 | ⟨o, e1⟩
        · rw [hd] at e1; cases e1
          exact .inr ⟨od, upd_same⟩
        · rw [hd] at e1; cases e1
      · unfold Rd; rw [upd_ne he]; exact e1
    · obtain ⟨o', e', r'⟩ := e2 k hk
      exact ⟨o', by rw [upd_ne (ne_of e' hd (by intro z; cases z))]; exact e', r'⟩
  exact ⟨M.ins.imp fun _ h => upd_inD h hd, lst M.l, lst M.o, by rw [upd_ne n1.1.symm]; exact M.s, by rw [upd_ne n1.2.1.symm]; exact M.h, by rw [upd_ne n1.2.2.symm]; exact M.n⟩
def addS (l : List Str) (k : Str) : List Str := if k ∈ l then l else l ++ [k]
theorem mem_addS {l : List Str} {k z : Str} : z ∈ addS l k ↔ z ∈ l ∨ z = k := by
  unfold addS
  by_cases h : k ∈ l
  · rw [if_pos h]
    exact ⟨.inl, fun q => q.elim id fun e => e ▸ h⟩
  · rw [if_neg h, List.mem_append, List.mem_singleton]
theorem dput_1 {H : Hp} {d : Addr} {ks : List Str} {k : Str} (h : H d = some (.dK (onesS ks))) (hl : ks.length ≤ 1000) : DPut H d (.str k) (.int 1) (upd H d (.dK (onesS (addS ks k)))) := by
  by_cases hk : k ∈ ks
  · have := dput_w (v := V.int 1) h hk hl
    have e : dkF ks (DA.setF (fun _ => V.int 1) k (V.int 1)) = onesS (addS ks k) := by
      unfold addS onesS
      rw [if_pos hk]
      exact dkF_congr fun x _ => by unfold DA.setF; split <;> rfl
    rw [e] at this; exact this
  · have := dput_n (v := V.int 1) h hk hl
    have e : dkF (ks ++ [k]) (DA.setF (fun _ => V.int 1) k (V.int 1)) = onesS (addS ks k) := by
      unfold addS onesS
      rw [if_neg hk]
      exact dkF_congr fun x _ => by unfold DA.setF; split <;> rfl
    rw [e] at this; exact this
/-- how many are missing -/
def miss (l s : List Str) : Nat := (l.filter fun x => !decide (x ∈ s)).length
theorem miss_add {l s : List Str} {k : Str} : miss l (addS s k) ≤ miss l s := by
  unfold miss
  induction l with
  | nil => exact Nat.le_refl _
  | cons x l ih =>
    by_cases h : x ∈ s
    · have h2 : x ∈ addS s k := mem_addS.mpr (.inl h)
      rw [List.filter_cons_of_neg (by simpa using h2), List.filter_cons_of_neg (by simpa using h)]; exact ih
    · rw [List.filter_cons_of_pos (a := x) (p := fun x => !decide (x ∈ s)) (by simpa using h)]
      by_cases h2 : x ∈ addS s k
      · rw [List.filter_cons_of_neg (by simpa using h2)]; simp only [List.length_cons]; omega
      · rw [List.filter_cons_of_pos (by simpa using h2)]; simp only [List.length_cons]; omega
theorem miss_new {l s : List Str} {k : Str} (hk : k ∈ l) (hs : k ∉ s) : miss l (addS s k) < miss l s := by
  unfold miss
  induction l with
  | nil => cases hk
  | cons x l ih =>
    have le : miss l (addS s k) ≤ miss l s := miss_add
    unfold miss at le
    by_cases e : x = k
    · subst e
      have h2 : x ∈ addS s x := mem_addS.mpr (.inr rfl)
      rw [List.filter_cons_of_pos (a := x) (p := fun x => !decide (x ∈ s)) (by simpa using hs), List.filter_cons_of_neg (by simpa using h2)]
      simp only [List.length_cons]; omega
    · have ih := ih ((List.mem_cons.mp hk).resolve_left (Ne.symm e))
      by_cases h : x ∈ s
      · have h2 : x ∈ addS s k := mem_addS.mpr (.inl h)
        rw [List.filter_cons_of_neg (by simpa using h2), List.filter_cons_of_neg (by simpa using h)]; exact ih
      · have h2 : x ∉ addS s k := fun z => (mem_addS.mp z).elim h e
        rw [List.filter_cons_of_pos (a := x) (p := fun x => !decide (x ∈ s)) (by simpa using h), List.filter_cons_of_pos (by simpa using h2)]
        simp only [List.length_cons]; omega
theorem upd_undo {H : Hp} {d : Addr} {u z : HO} (h : H d = some u) : upd (upd H d z) d u = H := by
  funext b
  by_cases hb : b = d
  · rw [hb, upd_same, h]
  · rw [upd_ne hb, upd_ne hb]
theorem Gr.lock2 {a : Ad} {H H' : Hp} {d : Addr} {u z : HO} (hd : H d = some u) (hp : plain u = true) (hz : plain z = true) (g : Gr a H H') (hk : H' d = some u) : Gr a (upd H d z) (upd H' d z) := by
  refine ⟨fun b o e _ n => ?_, fun t => ?_, fun b e => ?_⟩
  · by_cases hb : b = d
    · rw [hb, upd_same] at e ⊢; exact e
    · rw [upd_ne hb] at e ⊢; exact g.keep b o e (by simp) n
  · have t1 : Tb a H := by
      have := t.set (o' := u) upd_same hz
      rw [upd_undo hd] at this; exact this
    exact (g.tb t1).set hk hp
  · by_cases hb : b = d
    · rw [hb, upd_same] at e; cases e
    · rw [upd_ne hb] at e ⊢; exact g.free b e
/-- what a turn of the loop holds -/
structure PJ (f : Fr) (os rs os' rs' : List Str) (mv : Bool) (pr : Str → Str → Prop) : Prop where
  io : ∀ x, x ∈ os → x ∈ os'
  ir : ∀ x, x ∈ rs → x ∈ rs'
  bo : os'.length + miss f.As os' ≤ 20
  br : rs'.length + miss f.Rs rs' ≤ 20
  mt : mv = true → miss f.As os' + miss f.Rs rs' < miss f.As os + miss f.Rs rs
  mf : mv = false → os' = os ∧ rs' = rs ∧ ∀ x r, pr x r → DA.likes f.m x r → (x ∈ os ↔ r ∈ rs)
theorem miss_len {l s : List Str} {k : Str} (hk : k ∈ l) : (addS s k).length + miss l (addS s k) ≤ s.length + miss l s := by
  by_cases h : k ∈ s
  · unfold addS; rw [if_pos h]; exact Nat.le_refl _
  · have := miss_new hk h
    have e : (addS s k).length = s.length + 1 := by unfold addS; rw [if_neg h, List.length_append]; rfl
    omega
theorem PJ.skip {f : Fr} {os rs os' rs' : List Str} {mv : Bool} {pr pr' : Str → Str → Prop} (h : PJ f os rs os' rs' mv pr) (hp : ∀ x r, pr' x r → pr x r ∨ (DA.likes f.m x r → (x ∈ os' ↔ r ∈ rs'))) : PJ f os rs os' rs' mv pr' :=
  ⟨h.io, h.ir, h.bo, h.br, h.mt, fun e => by
    obtain ⟨e1, e2, e3⟩ := h.mf e
    refine ⟨e1, e2, fun x r q l => ?_⟩
    rcases hp x r q with z | z
    · exact e3 x r z l
    · have := z l
      rw [e1, e2] at this; exact this⟩
theorem PJ.add {f : Fr} {os rs os' rs' : List Str} {mv : Bool} {pr pr' : Str → Str → Prop} {x r : Str} (h : PJ f os rs os' rs' mv pr) (hx : x ∈ f.As) (hr : r ∈ f.Rs) (hne : ¬ (x ∈ os' ↔ r ∈ rs')) : PJ f os rs (addS os' x) (addS rs' r) true pr' := by
  refine ⟨fun z hz => mem_addS.mpr (.inl (h.io z hz)), fun z hz => mem_addS.mpr (.inl (h.ir z hz)), Nat.le_trans (miss_len hx) h.bo, Nat.le_trans (miss_len hr) h.br, fun _ => ?_, fun e => by cases e⟩
  have l1 : miss f.As (addS os' x) ≤ miss f.As os' := miss_add
  have l2 : miss f.Rs (addS rs' r) ≤ miss f.Rs rs' := miss_add
  have l3 : miss f.As os' + miss f.Rs rs' ≤ miss f.As os + miss f.Rs rs := by
    cases mv with
    | true => exact Nat.le_of_lt (h.mt rfl)
    | false => obtain ⟨e1, e2, _⟩ := h.mf rfl; rw [e1, e2]; exact Nat.le_refl _
  by_cases h1 : x ∈ os'
  · have h2 : r ∉ rs' := fun z => hne ⟨fun _ => z, fun _ => h1⟩
    have := miss_new hr h2
    omega
  · have := miss_new hx h1
    omega
theorem dkF_at {ks : List Str} {g : Str → V} {i : Nat} {k : Key} {v : V} (h : (dkF ks g)[i]? = some (k, v)) : ∃ z, ks[i]? = some z ∧ k = Sum.inr z := by
  unfold dkF at h
  rw [List.getElem?_map] at h
  cases e : ks[i]? with
  | none => rw [e] at h; cases h
  | some z => rw [e] at h; cases h; exact ⟨z, rfl, rfl⟩
def spFPart (a : Ad) : Sp := fun vs H Q _ => ∃ (F : FAd) (f : Fr) (ta tr : Addr) (xs ys : List Str), vs = [.ref F.p, .ref ta, .ref tr] ∧ FairAt a H F f ∧ f.Ok ∧ H ta = some (.lst (strV xs)) ∧ H tr = some (.lst (strV ys)) ∧ xs.Nodup ∧ ys.Nodup ∧ xs.length ≤ 10 ∧ ys.length ≤ 10 ∧
  ∀ D H' zs (I J : Str → Prop), Gr a H H' → H D = none → H' D = some (.lst (strV zs)) → (∀ z, z ∈ zs ↔ z ∈ f.As ∧ I z) → zs.Nodup → (∀ x r, DA.likes f.m x r → (I x ↔ J r)) → (∀ x, x ∈ xs → I x) → (∀ y, y ∈ ys → J y) → Q (.ref D) H'
section
variable {P : Program} {w : World} {K : PySem.W.Frag} {mg : Str → Option Value} {base : Heap} {a : Ad}
theorem sc_F_part : FnScope ["self", "askers", "rooms", "ones", "others", "moved", "asker", "room", "one"] ["self", "askers", "rooms"] (defScope s_F_part_of) := ⟨rfl, rfl, rfl, by decide +kernel, rfl, by decide +kernel, by decide +kernel⟩
theorem ok_F_part (T : Txt K mg base a) : FnOk P w K mg base CX0 2 a.f_F_part_of a.d_F_part_of ["self", "askers", "rooms"] (spFPart a) := by
  have GL : FnOk P w K mg base CX0 1 a.f_F_likes a.d_F_likes ["self", "asker", "room"] (spFLikes a) := ok_F_likes T
  refine T.F_F_part_of.ok sc_F_part (fun vs H Q E h => ?_) (fun cdv A outer s H vs Q E hr h => ?_)
  · obtain ⟨F, f, ta, tr, xs, ys, rfl, _⟩ := h
    rfl
  · obtain ⟨F, f, ta, tr, xs, ys, rfl, M, ok, hta, htr, nx, ny, lx, ly, k⟩ := h
    have hu := hu_of hr
    have nd := sc_F_part.nd
    refine ⟨_, pss_cons (ps_asg (pe_tup (pa_cons (pe_callTy (call_dictP rfl) (by rfl) T.z_dict bt_dict (pa_cons
          (pe_lc (own := [("one", 8)]) (g := gName 8) (tt := tYes) rfl nd (pi_list (pv 1)) (blkOk_by (N := ["self", "askers", "rooms", "ones", "others", "moved", "asker", "room", "one"]) (sc := defScope s_F_part_of) (by decide +kernel))
            (fun _ _ _ _ _ => pg_name (i := 8) nd rfl (Or.inl rfl)) (fun _ _ _ _ _ => pts_nil) (fun _ _ _ _ _ => pe_tup (pa_cons (pv 8) (pa_cons pe_int pa_nil)))) pa_nil)) (pa_cons (pe_callTy (call_dictP rfl) (by rfl) T.z_dict bt_dict (pa_cons
          (pe_lc (own := [("one", 8)]) (g := gName 8) (tt := tYes) rfl nd (pi_list (pv 2)) (blkOk_by (N := ["self", "askers", "rooms", "ones", "others", "moved", "asker", "room", "one"]) (sc := defScope s_F_part_of) (by decide +kernel))
            (fun _ _ _ _ _ => pg_name (i := 8) nd rfl (Or.inl rfl)) (fun _ _ _ _ _ => pts_nil) (fun _ _ _ _ _ => pe_tup (pa_cons (pv 8) (pa_cons pe_int pa_nil)))) pa_nil)) pa_nil))) (pg_tup rfl (pgs_cons (pg_name (i := 3) nd rfl (by first | exact Or.inl rfl | exact Or.inr rfl)) (pgs_cons (pg_name (i := 4) nd rfl (by first | exact Or.inl rfl | exact Or.inr rfl)) pgs_nil))))
      (pss_cons (ps_set (i := 5) nd rfl (Or.inl rfl) pe_bl)
      (pss_cons (ps_while PassesOwn.never (pt_val (pv 5))
        (pss_cons (ps_set (i := 5) nd rfl (Or.inl rfl) pe_bl)
        (pss_one (ps_lock (ps_for PassesOwn.never rfl (pi_keys (pe_fld (pv 0) rfl)) (pg_name (i := 6) nd rfl (Or.inl rfl))
          (pss_one (ps_lock (ps_for PassesOwn.never rfl (pi_keys (pe_fld (pv 0) rfl)) (pg_name (i := 7) nd rfl (Or.inl rfl))
            (pss_one (ps_if (PW.pt (pw_and (pt_val (pe_meth (pv 0) T.cl_F T.m_F_likes GL hr T.b_F_likes .nil pass0 (pa_cons (pv 6) (pa_cons (pv 7) pa_nil)))) (pw_and1 (pt_cmpR op_ne (pe_cmp (pc_din hu (pv 6) (pv 3)) rfl) (pe_cmp (pc_din hu (pv 7) (pv 4)) rfl) (nomark _)))))
              (pss_cons (ps_dput hu (pv 3) (pv 6) pe_int (by rfl)) (pss_cons (ps_dput hu (pv 4) (pv 7) pe_int (by rfl)) (pss_one (ps_set (i := 5) nd rfl (Or.inl rfl) pe_bl)))) pss_nil))))))))))
      (pss_one (ps_ret (pe_lc (own := [("asker", 6)]) (g := gName 6) (te := tVar 6) rfl nd (pi_list (pe_callB (call_sortedD rfl) (by rfl) T.z_sorted bt_sorted (pa_cons (pe_fld (pv 0) rfl) pa_nil))) (blkOk_by (N := ["self", "askers", "rooms", "ones", "others", "moved", "asker", "room", "one"]) (sc := defScope s_F_part_of) (by decide +kernel))
          (fun _ _ _ _ _ => pg_name (i := 6) nd rfl (Or.inl rfl)) (fun _ _ _ _ _ => pts_one (pt_cmp (pc_din hu (pv 6) (pv 3)) rfl)) (fun _ _ _ _ _ => pv 6)))))), ?_⟩
    dsimp only [tNext, tSeq, tAsg]
    refine ⟨_, rfl, ta, rfl, ⟨_, SqL.of hta⟩, fun D nD => ?_⟩
    refine ones_walk (a := a) (walk_list (K := K) (a := ta)) (fun H' g => SqL.of (Gr.lst g hta)) (fun _ => rfl) (fun _ => rfl) (by omega) nD fun H2 ps g2 hD hp => ?_
    refine ⟨D, ps, onesS xs, rfl, SqL.of hD, Paired.mapP hp fun p kv h => SqT.of h, fun d1 nd1 => ?_⟩
    rw [mergeK_nodup (onesS_keys nx)]
    have g3 : Gr a H (upd H2 d1 (.dK (onesS xs))) := g2.trans (Gx.new nd1)
    have hd1 : upd H2 d1 (.dK (onesS xs)) d1 = some (.dK (onesS xs)) := upd_same
    have nd1H := g2.free _ nd1
    generalize upd H2 d1 (.dK (onesS xs)) = H3 at *
    have htr3 := Gr.lst g3 htr
    refine ⟨_, rfl, tr, rfl, ⟨_, SqL.of htr3⟩, fun D' nD' => ?_⟩
    refine ones_walk (a := a) (walk_list (K := K) (a := tr)) (fun H' g => SqL.of (Gr.lst g htr3)) (fun _ => rfl) (fun _ => rfl) (by omega) nD' fun H4 ps' g4 hD' hp' => ?_
    refine ⟨D', ps', onesS ys, rfl, SqL.of hD', Paired.mapP hp' fun p kv h => SqT.of h, fun d2 nd2 => ?_⟩
    rw [mergeK_nodup (onesS_keys ny)]
    have g5 : Gr a H3 (upd H4 d2 (.dK (onesS ys))) := g4.trans (Gx.new nd2)
    have hd2 : upd H4 d2 (.dK (onesS ys)) d2 = some (.dK (onesS ys)) := upd_same
    have hd1' := Gr.dk g5 hd1
    have nd2H := (g3.trans g4).free _ nd2
    have d12 : d1 ≠ d2 := ne_of_none (Gr.dk g4 hd1) nd2
    generalize upd H4 d2 (.dK (onesS ys)) = H5 at *
    refine ⟨by show 2 ≤ sizeLine; decide, fun T6 nT6 => ?_⟩
    refine ⟨T6, _, rfl, SqT.of upd_same, rfl, _, _, rfl, _, _, rfl, rfl, ?_⟩
    have g6 : Gr a H (upd H5 T6 (.tup [V.ref d1, V.ref d2])) := (g3.trans g5).trans (Gx.new nT6)
    have hd1 := new_keep (o := .tup [V.ref d1, V.ref d2]) hd1' nT6
    have hd2 := new_keep (o := .tup [V.ref d1, V.ref d2]) hd2 nT6
    generalize upd H5 T6 _ = H6 at *
    -- while moved
    let PV : Nat → L2.St → Hp → Prop := fun q σ H' => ∃ (os rs : List Str) (mv : Bool) (v6 v7 v8 : Option V), σ = [some (.ref F.p), some (.ref ta), some (.ref tr), some (.ref d1), some (.ref d2), some (.bl mv), v6, v7, v8] ∧ Gr a H H' ∧ H' d1 = some (.dK (onesS os)) ∧ H' d2 = some (.dK (onesS rs)) ∧
      (∀ x, x ∈ xs → x ∈ os) ∧ (∀ y, y ∈ ys → y ∈ rs) ∧ os.length + miss f.As os ≤ 20 ∧ rs.length + miss f.Rs rs ≤ 20 ∧ q = (if mv = true then miss f.As os + miss f.Rs rs + 1 else 0) ∧ (mv = false → ∀ x r, DA.likes f.m x r → (x ∈ os ↔ r ∈ rs))
    refine ⟨PV, ⟨_, xs, ys, true, none, none, none, rfl, g6, hd1, hd2, fun _ h => h, fun _ h => h, ?_, ?_, rfl, fun z => by cases z⟩, ?_⟩
    · have : miss f.As xs ≤ f.As.length := List.length_filter_le _ _
      have := ok.cA
      omega
    · have : miss f.Rs ys ≤ f.Rs.length := List.length_filter_le _ _
      have := ok.cR
      omega
    rintro q σ H7 ⟨os, rs, mv, v6, v7, v8, rfl, g7, o7, r7, hxs, hys, bos, brs, rfl, hcl⟩
    refine ⟨_, rfl, mv, rfl, ?_⟩
    cases mv with
    | false =>
      refine iteF ?_
      have M7 := M.gr g7
      obtain ⟨n7', hp7⟩ := M7.ins
      obtain ⟨lp7, hl7, hlp7⟩ := M7.l
      refine ⟨_, rfl, F.p, a.cF, F.dx, _, _, rfl, hp7, T.cl_F, T.n_F_lists, ff_lists, F.dl, _, f.As, rfl, hl7, dkF_keys, by have := ok.cA; omega, fun zs p1 hperm hsort np1 => ?_⟩
      have g8 : Gr a H7 (upd H7 p1 (.lst (zs.map V.str))) := Gx.new np1
      have hlen : zs.length ≤ 10 := by rw [hperm.length_eq]; exact ok.cA
      refine ⟨p1, rfl, ⟨_, SqL.of upd_same⟩, fun D8 nD8 => ?_⟩
      refine lc_list (K := K) (a := p1) (xs := strV zs) (fun i H' => Gr a (upd H7 p1 (.lst (zs.map V.str))) H' ∧ H' D8 = some (.lst (strV ((zs.take i).filter fun z => decide (z ∈ os))))) ⟨Gx.new nD8, upd_same⟩ (fun i H' _ ⟨g, _⟩ => SqL.of (Gr.lst g upd_same)) ?_ ?_
      · rintro i x H' hx ⟨g, hD8⟩
        obtain ⟨z, hz, rfl⟩ := strV_get hx
        obtain ⟨q1, e1, s1⟩ := dget_in (k := z) (f := fun _ => V.int 1) (.inl (Gr.dk (g8.trans g) o7))
        refine ⟨rfl, ?_⟩
        refine ⟨_, rfl, _, rfl, d1, q1, rfl, e1, _, rfl, ?_⟩
        rw [s1]
        by_cases h : z ∈ os
        · rw [decide_eq_true h]
          refine iteT ?_
          refine ⟨_, rfl, _, hD8, sz1000 (by rw [strV_len]; exact Nat.le_trans (List.length_filter_le _ _) (Nat.le_trans (List.length_take_le' ..) (by omega))), Gx.app g nD8 hD8 rfl, ?_⟩
          rw [upd_same, strV_snoc, filt_yes hz (decide_eq_true h)]
        · rw [decide_eq_false h]
          refine iteF ⟨g, ?_⟩
          rw [filt_no hz (decide_eq_false h)]
          exact hD8
      · rintro H' ⟨g, hD8⟩
        rw [strV_len, List.take_length] at hD8
        refine k D8 H' _ (fun z => z ∈ os) (fun r => r ∈ rs) ((g7.trans g8).trans g) ((g7.trans g8).free _ nD8) hD8 (fun z => ?_) ((hperm.nodup_iff.mpr ok.nA).filter _) (hcl rfl) hxs hys
        rw [List.mem_filter, hperm.mem_iff, decide_eq_true_eq]
    | true =>
      refine iteT ?_
      refine ⟨_, fun _ _ h => h, ?_⟩
      -- moved = False; for asker in self.lists
      obtain ⟨lp, hlW⟩ := M.wl
      obtain ⟨rp, hrW⟩ := M.wo
      obtain ⟨n1, n2, n3, n4, n5, n6, n7, n8, n9, n10⟩ := M.ne
      have hl7 := Gr.dk g7 hlW
      refine ⟨F.dl, _, hl7, trivial, fun od => ?_⟩
      have gB : Gr a (upd H F.dl (.frz od (.dK (dkF f.As fun k => V.ref (lp k))))) (upd H7 F.dl (.frz od (.dK (dkF f.As fun k => V.ref (lp k))))) := Gr.lock2 hlW rfl rfl g7 hl7
      have MB : FairR a (upd H F.dl (.frz od (.dK (dkF f.As fun k => V.ref (lp k))))) F f := M.toFairR.lockL hlW (.inl rfl) ⟨n2, n3, n4⟩
      have hBl : upd H F.dl (.frz od (.dK (dkF f.As fun k => V.ref (lp k)))) F.dl = some (.frz od (.dK (dkF f.As fun k => V.ref (lp k)))) := upd_same
      have hBr : upd H F.dl (.frz od (.dK (dkF f.As fun k => V.ref (lp k)))) F.dr = some (.dK (dkF f.Rs fun k => V.ref (rp k))) := (upd_ne n1.symm).trans hrW
      have d1l : d1 ≠ F.dl := fun z => by rw [z, hlW] at nd1H; cases nd1H
      have d2l : d2 ≠ F.dl := fun z => by rw [z, hlW] at nd2H; cases nd2H
      have d1r : d1 ≠ F.dr := fun z => by rw [z, hrW] at nd1H; cases nd1H
      have d2r : d2 ≠ F.dr := fun z => by rw [z, hrW] at nd2H; cases nd2H
      have nB1 : upd H F.dl (.frz od (.dK (dkF f.As fun k => V.ref (lp k)))) d1 = none := (upd_ne d1l).trans nd1H
      have nB2 : upd H F.dl (.frz od (.dK (dkF f.As fun k => V.ref (lp k)))) d2 = none := (upd_ne d2l).trans nd2H
      have o8 : upd H7 F.dl (.frz od (.dK (dkF f.As fun k => V.ref (lp k)))) d1 = some (.dK (onesS os)) := (upd_ne d1l).trans o7
      have r8 : upd H7 F.dl (.frz od (.dK (dkF f.As fun k => V.ref (lp k)))) d2 = some (.dK (onesS rs)) := (upd_ne d2l).trans r7
      have back : ∀ H', Gr a (upd H F.dl (.frz od (.dK (dkF f.As fun k => V.ref (lp k))))) H' → H' F.dl = some (.frz od (.dK (dkF f.As fun k => V.ref (lp k)))) → Gr a H (upd H' F.dl (.dK (dkF f.As fun k => V.ref (lp k)))) := fun H' g h => Gr.unlock hlW rfl g h
      generalize upd H7 F.dl (.frz od (.dK (dkF f.As fun k => V.ref (lp k)))) = H8 at *
      generalize upd H F.dl (.frz od (.dK (dkF f.As fun k => V.ref (lp k)))) = HB at *
      have M8 := MB.gr gB
      obtain ⟨n8', hp8⟩ := M8.ins
      have kl : ∀ H', Gr a HB H' → H' F.dl = some (.frz od (.dK (dkF f.As fun k => V.ref (lp k)))) := fun H' g => g.keep _ _ hBl (by simp) rfl
      refine ⟨_, rfl, F.p, a.cF, F.dx, _, _, rfl, hp8, T.cl_F, T.n_F_lists, ff_lists, F.dl, od, rfl, .inl ⟨_, kl _ gB, ?_⟩⟩
      refine for_it walk_keys (fun i σ H' => ∃ (os' rs' : List Str) (mv : Bool) (v6 v7 v8 : Option V), σ = [some (.ref F.p), some (.ref ta), some (.ref tr), some (.ref d1), some (.ref d2), some (.bl mv), v6, v7, v8] ∧ Gr a HB H' ∧ H' d1 = some (.dK (onesS os')) ∧ H' d2 = some (.dK (onesS rs')) ∧
        PJ f os rs os' rs' mv fun x r => x ∈ f.As.take i ∧ r ∈ f.Rs) ⟨os, rs, false, v6, v7, v8, rfl, gB, o8, r8, ⟨fun _ h => h, fun _ h => h, bos, brs, fun e => (by cases e), fun _ => ⟨rfl, rfl, fun x r h => (by simp at h)⟩⟩⟩ (fun i σ H' _ ⟨_, _, _, _, _, _, _, g, _⟩ => kl H' g) ?_ ?_
      · rintro i x σ H9 H10 hi ⟨os1, rs1, mv1, w6, w7, w8, rfl, g9, o9, r9, J9⟩ ⟨rfl, key, vv, hkv, rfl⟩
        obtain ⟨x, hx, rfl⟩ := dkF_at hkv
        have hxA : x ∈ f.As := List.mem_of_getElem? hx
        -- for room in self.orders
        have hr9 := Gr.dk g9 hBr
        refine ⟨F.dr, _, hr9, trivial, fun od2 => ?_⟩
        have gC : Gr a (upd HB F.dr (.frz od2 (.dK (dkF f.Rs fun k => V.ref (rp k))))) (upd H10 F.dr (.frz od2 (.dK (dkF f.Rs fun k => V.ref (rp k))))) := Gr.lock2 hBr rfl rfl g9 hr9
        have MC : FairR a (upd HB F.dr (.frz od2 (.dK (dkF f.Rs fun k => V.ref (rp k))))) F f := MB.lockL hBr (.inr rfl) ⟨n5, n6, n7⟩
        have hCr : upd HB F.dr (.frz od2 (.dK (dkF f.Rs fun k => V.ref (rp k)))) F.dr = some (.frz od2 (.dK (dkF f.Rs fun k => V.ref (rp k)))) := upd_same
        have nC1 : upd HB F.dr (.frz od2 (.dK (dkF f.Rs fun k => V.ref (rp k)))) d1 = none := (upd_ne d1r).trans nB1
        have nC2 : upd HB F.dr (.frz od2 (.dK (dkF f.Rs fun k => V.ref (rp k)))) d2 = none := (upd_ne d2r).trans nB2
        have oC : upd H10 F.dr (.frz od2 (.dK (dkF f.Rs fun k => V.ref (rp k)))) d1 = some (.dK (onesS os1)) := (upd_ne d1r).trans o9
        have rC : upd H10 F.dr (.frz od2 (.dK (dkF f.Rs fun k => V.ref (rp k)))) d2 = some (.dK (onesS rs1)) := (upd_ne d2r).trans r9
        have back2 : ∀ H', Gr a (upd HB F.dr (.frz od2 (.dK (dkF f.Rs fun k => V.ref (rp k))))) H' → H' F.dr = some (.frz od2 (.dK (dkF f.Rs fun k => V.ref (rp k)))) → Gr a HB (upd H' F.dr (.dK (dkF f.Rs fun k => V.ref (rp k)))) := fun H' g h => Gr.unlock hBr rfl g h
        generalize upd H10 F.dr (.frz od2 (.dK (dkF f.Rs fun k => V.ref (rp k)))) = H11 at *
        generalize upd HB F.dr (.frz od2 (.dK (dkF f.Rs fun k => V.ref (rp k)))) = HC at *
        have M11 := MC.gr gC
        obtain ⟨n11, hp11⟩ := M11.ins
        have kr : ∀ H', Gr a HC H' → H' F.dr = some (.frz od2 (.dK (dkF f.Rs fun k => V.ref (rp k)))) := fun H' g => g.keep _ _ hCr (by simp) rfl
        refine ⟨_, rfl, F.p, a.cF, F.dx, _, _, rfl, hp11, T.cl_F, T.n_F_orders, ff_orders, F.dr, od2, rfl, .inl ⟨_, kr _ gC, ?_⟩⟩
        refine for_it walk_keys (fun j σ H' => ∃ (os' rs' : List Str) (mv : Bool) (v7 v8 : Option V), σ = [some (.ref F.p), some (.ref ta), some (.ref tr), some (.ref d1), some (.ref d2), some (.bl mv), some (.str x), v7, v8] ∧ Gr a HC H' ∧ H' d1 = some (.dK (onesS os')) ∧ H' d2 = some (.dK (onesS rs')) ∧
          PJ f os rs os' rs' mv fun y r => (y ∈ f.As.take i ∧ r ∈ f.Rs) ∨ (y = x ∧ r ∈ f.Rs.take j)) ⟨os1, rs1, mv1, w7, w8, rfl, gC, oC, rC, J9.skip fun y r h => h.elim .inl fun z => (by simp at z)⟩ (fun i σ H' _ ⟨_, _, _, _, _, _, g, _⟩ => kr H' g) ?_ ?_
        · rintro j y σ H12 H13 hj ⟨os2, rs2, mv2, u7, u8, rfl, g12, o12, r12, J12⟩ ⟨rfl, key2, vv2, hkv2, rfl⟩
          obtain ⟨r, hr', rfl⟩ := dkF_at hkv2
          have hrR : r ∈ f.Rs := List.mem_of_getElem? hr'
          have M12 := MC.gr g12
          obtain ⟨n12, hp12⟩ := M12.ins
          refine ⟨_, rfl, F.p, F.dx, _, rfl, hp12, ff_no (by decide +kernel) (by decide +kernel) (by decide +kernel) (by decide +kernel) (by decide +kernel) (by decide +kernel), _, rfl, _, rfl, F, f, x, r, rfl, M12, ok, _, rfl, ?_⟩
          have skip : (DA.likes f.m x r → (x ∈ os2 ↔ r ∈ rs2)) → PJ f os rs os2 rs2 mv2 fun y r => (y ∈ f.As.take i ∧ r ∈ f.Rs) ∨ (y = x ∧ r ∈ f.Rs.take (j + 1)) := fun hl => J12.skip fun y q h => by
            rcases h with h | ⟨rfl, h⟩
            · exact .inl (.inl h)
            · rw [take_snoc hr'] at h
              rcases List.mem_append.mp h with h | h
              · exact .inl (.inr ⟨rfl, h⟩)
              · rw [List.mem_singleton.mp h]; exact .inr hl
          by_cases hlk : r ∈ f.ls x ∧ x ∈ f.os r
          · rw [decide_eq_true hlk]
            refine iteT ?_
            obtain ⟨q1, e1, s1⟩ := dget_in (k := x) (f := fun _ => V.int 1) (.inl o12)
            obtain ⟨q2, e2, s2⟩ := dget_in (k := r) (f := fun _ => V.int 1) (.inl r12)
            refine ⟨_, rfl, _, rfl, d1, q1, rfl, e1, _, rfl, _, rfl, d2, q2, rfl, e2, rfl, _, rfl, ?_⟩
            rw [s1, s2]
            by_cases hb : (x ∈ os2 ↔ r ∈ rs2)
            · have eb : (!decide (V.bl (decide (x ∈ os2)) = V.bl (decide (r ∈ rs2)))) = false := by
                have : decide (x ∈ os2) = decide (r ∈ rs2) := by by_cases h : x ∈ os2 <;> by_cases h2 : r ∈ rs2 <;> simp_all
                rw [this]; simp
              rw [eb]
              refine iteF ?_
              exact ⟨os2, rs2, mv2, _, u8, rfl, g12, o12, r12, skip fun _ => hb⟩
            · have eb : (!decide (V.bl (decide (x ∈ os2)) = V.bl (decide (r ∈ rs2)))) = true := by
                have : decide (x ∈ os2) ≠ decide (r ∈ rs2) := by by_cases h : x ∈ os2 <;> by_cases h2 : r ∈ rs2 <;> simp_all
                simp [this]
              rw [eb]
              refine iteT ?_
              have l1 : os2.length ≤ 1000 := by have := J12.bo; omega
              have l2 : rs2.length ≤ 1000 := by have := J12.br; omega
              refine ⟨_, rfl, _, rfl, d1, _, rfl, dput_1 o12 l1, ?_⟩
              have r13 : upd H13 d1 (.dK (onesS (addS os2 x))) d2 = some (.dK (onesS rs2)) := (upd_ne d12.symm).trans r12
              refine ⟨_, rfl, _, rfl, d2, _, rfl, dput_1 r13 l2, ?_⟩
              refine ⟨addS os2 x, addS rs2 r, true, _, u8, rfl, Gx.app (Gx.app g12 nC1 o12 rfl) nC2 r13 rfl, (upd_ne d12).trans upd_same, upd_same, J12.add hxA hrR hb⟩
          · rw [decide_eq_false hlk]
            refine iteF ?_
            refine iteF ?_
            exact ⟨os2, rs2, mv2, _, u8, rfl, g12, o12, r12, skip fun l => absurd l hlk⟩
        · rintro σ H12 ⟨os2, rs2, mv2, u7, u8, rfl, g12, o12, r12, J12⟩
          refine ⟨kr _ g12, os2, rs2, mv2, _, u7, u8, rfl, back2 _ g12 (kr _ g12), (upd_ne d1r).trans o12, (upd_ne d2r).trans r12, J12.skip fun y r h => ?_⟩
          rw [dkF_len, List.take_length]
          rw [take_snoc hx] at h
          rcases List.mem_append.mp h.1 with z | z
          · exact .inl (.inl ⟨z, h.2⟩)
          · exact .inl (.inr ⟨List.mem_singleton.mp z, h.2⟩)
      · rintro σ H9 ⟨os1, rs1, mv1, w6, w7, w8, rfl, g9, o9, r9, J9⟩
        rw [dkF_len, List.take_length] at J9
        refine ⟨kl _ g9, _, ?_, os1, rs1, mv1, w6, w7, w8, rfl, back _ g9 (kl _ g9), (upd_ne d1l).trans o9, (upd_ne d2l).trans r9, fun z hz => J9.io z (hxs z hz), fun z hz => J9.ir z (hys z hz), J9.bo, J9.br, rfl, fun e x r hl => ?_⟩
        · cases mv1 with
          | true => have := J9.mt rfl; simp; omega
          | false => simp
        · obtain ⟨e1, e2, e3⟩ := J9.mf e
          have hxA : x ∈ f.As := Classical.byContradiction fun z => by have h := hl.1; rw [show f.m.pref x = f.ls x from rfl, (ok.dA x z).1] at h; cases h
          have hrR : r ∈ f.Rs := Classical.byContradiction fun z => by have h := hl.2; rw [show f.m.ord r = f.os r from rfl, (ok.dR r z).1] at h; cases h
          rw [e1, e2]
          exact e3 x r ⟨hxA, hrR⟩ hl
end
end K6

/-! ## KFair7 -/
set_option maxRecDepth 100000
set_option maxHeartbeats 4000000
/-! Fair.told. -/
namespace K6
open PySem PySem.Spec PyProof.Rows L2
theorem putK_ones {ks : List Str} {k : Str} : putK (onesS ks) (Sum.inr k : Key) (V.int 1) = onesS (addS ks k) := by
  by_cases hk : k ∈ ks
  · unfold onesS addS
    rw [dkF_put hk, if_pos hk]
    exact dkF_congr fun x _ => by unfold DA.setF; split <;> rfl
  · unfold onesS addS
    rw [dkF_new hk, if_neg hk]
    exact dkF_congr fun x _ => by unfold DA.setF; split <;> rfl
theorem mergeK_ones : ∀ (l acc : List Str), mergeK (onesS acc) (onesS l) = onesS (l.foldl addS acc)
  | [], acc => rfl
  | x :: l, acc => by
    show mergeK (putK (onesS acc) (Sum.inr x : Key) (V.int 1)) (onesS l) = _
    rw [putK_ones, mergeK_ones l (addS acc x)]
    rfl
theorem addS_len {l : List Str} {k : Str} : (addS l k).length ≤ l.length + 1 := by
  unfold addS; split
  · omega
  · rw [List.length_append]; exact Nat.le_refl _
theorem foldl_len : ∀ (l acc : List Str), (l.foldl addS acc).length ≤ acc.length + l.length
  | [], acc => Nat.le_refl _
  | x :: l, acc => by
    have := foldl_len l (addS acc x)
    have := addS_len (l := acc) (k := x)
    simp only [List.foldl_cons, List.length_cons]
    omega
theorem optS_scal (x y : Option Str) : scal (optS x) (optS y) = true := by cases x <;> cases y <;> rfl
def spFTold (a : Ad) : Sp := fun vs H Q _ => ∃ (F : FAd) (f : Fr) (b : Addr) (ks : List Str) (h0 : Str → Option Str), vs = [.ref F.p, .ref b] ∧ FairAt a H F f ∧ f.Ok ∧ H b = some (.dK (dkF ks fun k => optS (h0 k))) ∧ ks.length ≤ 10 ∧ ∀ v H', Gr a H H' → Q v H'
section
variable {P : Program} {w : World} {K : PySem.W.Frag} {mg : Str → Option Value} {base : Heap} {a : Ad}
theorem sc_F_told : FnScope ["self", "before", "words", "word"] ["self", "before"] (defScope s_F_told) := ⟨rfl, rfl, rfl, by decide +kernel, rfl, by decide +kernel, by decide +kernel⟩
theorem ok_F_told (T : Txt K mg base a) : FnOk P w K mg base CX0 1 a.f_F_told a.d_F_told ["self", "before"] (spFTold a) := by
  refine T.F_F_told.ok sc_F_told (fun vs H Q E h => ?_) (fun cdv A outer s H vs Q E hr h => ?_)
  · obtain ⟨F, f, b, ks, h0, rfl, _⟩ := h
    rfl
  · obtain ⟨F, f, b, ks, h0, rfl, M, ok, hb, hkl, k⟩ := h
    have hu := hu_of hr
    have nd := sc_F_told.nd
    refine ⟨_, pss_cons (ps_set (i := 2) nd rfl (Or.inl rfl) (pe_callB (call_sortedD rfl) (by rfl) T.z_sorted bt_sorted (pa_cons (pe_callTy (call_dictP rfl) (by rfl) T.z_dict bt_dict (pa_cons
          (pe_lc (own := [("word", 3)]) (g := gName 3) (tt := tYes) rfl nd (pi_list (pe_op op_cat (pe_callTy (call_listD rfl) (by rfl) T.z_list bt_list (pa_cons (pv 1) pa_nil)) (pe_callTy (call_listD rfl) (by rfl) T.z_list bt_list (pa_cons (pe_fld (pv 0) rfl) pa_nil)))) (blkOk_by (N := ["self", "before", "words", "word"]) (sc := defScope s_F_told) (by decide +kernel))
            (fun _ _ _ _ _ => pg_name (i := 3) nd rfl (Or.inl rfl)) (fun _ _ _ _ _ => pts_nil) (fun _ _ _ _ _ => pe_tup (pa_cons (pv 3) (pa_cons pe_int pa_nil)))) pa_nil)) pa_nil)))
      (pss_one (ps_ret (pe_callTy call_tupleF (by rfl) T.z_tuple bt_tuple (pa_cons
          (pe_lc (own := [("word", 3)]) (g := gName 3) (te := tTup (tCons (tVar 3) (tCons (tDGet1 (tVar 1) (tVar 3)) (tCons (tDGet1 (tFld K (tVar 0) "held") (tVar 3)) tNil)))) rfl nd (pi_list (pv 2)) (blkOk_by (N := ["self", "before", "words", "word"]) (sc := defScope s_F_told) (by decide +kernel))
            (fun _ _ _ _ _ => pg_name (i := 3) nd rfl (Or.inl rfl)) (fun _ _ _ _ _ => pts_one (pt_cmpR (tb := tDGet1 (tFld K (tVar 0) "held") (tVar 3)) op_ne (pe_dget1 hu (pv 1) (pv 3) ⟨rfl, rfl, rfl, rfl⟩) (pe_dget1 hu (pe_fld (pv 0) rfl) (pv 3) ⟨rfl, rfl, rfl, rfl⟩) (nomark _)))
            (fun _ _ _ _ _ => pe_tup (pa_cons (pv 3) (pa_cons (pe_dget1 hu (pv 1) (pv 3) ⟨rfl, rfl, rfl, rfl⟩) (pa_cons (pe_dget1 hu (pe_fld (pv 0) rfl) (pv 3) ⟨rfl, rfl, rfl, rfl⟩) pa_nil))))) pa_nil)))), ?_⟩
    have keysV : ∀ (ks : List Str) (g : Str → V), (dkF ks g).map (fun kv => kV kv.1) = strV ks := fun ks g => by
      unfold dkF strV
      rw [List.map_map]
      rfl
    refine ⟨_, rfl, b, _, rfl, .inl hb, fun p1 n1 => ?_⟩
    rw [keysV]
    have g1 : Gr a H (upd H p1 (.lst (strV ks))) := Gx.new n1
    have e1 : upd H p1 (.lst (strV ks)) p1 = some (.lst (strV ks)) := upd_same
    generalize upd H p1 (.lst (strV ks)) = H1 at *
    have M1 := M.gr g1
    obtain ⟨n', hp1⟩ := M1.ins
    refine ⟨_, rfl, F.p, a.cF, F.dx, _, _, rfl, hp1, T.cl_F, T.n_F_held, ff_held, F.dh, _, rfl, .inl M1.h, fun p2 n2 => ?_⟩
    rw [keysV]
    have g2 : Gr a H1 (upd H1 p2 (.lst (strV f.As))) := Gx.new n2
    have e2 : upd H1 p2 (.lst (strV f.As)) p2 = some (.lst (strV f.As)) := upd_same
    have e1 := Gr.lst g2 e1
    generalize upd H1 p2 (.lst (strV f.As)) = H2 at *
    have lA := ok.cA
    refine ⟨p1, p2, _, _, rfl, rfl, e1, e2, Nat.le_of_lt (sz1000 (by rw [strV_len, strV_len]; omega)), fun p3 n3 => ?_⟩
    have g3 : Gr a H2 (upd H2 p3 (.lst (strV ks ++ strV f.As))) := Gx.new n3
    have e3 : upd H2 p3 (.lst (strV ks ++ strV f.As)) p3 = some (.lst (strV (ks ++ f.As))) := by rw [upd_same]; simp [strV]
    generalize upd H2 p3 (.lst (strV ks ++ strV f.As)) = H3 at *
    have g03 := g1.trans (g2.trans g3)
    refine ⟨p3, rfl, ⟨_, SqL.of e3⟩, fun D nD => ?_⟩
    refine ones_walk (a := a) (walk_list (K := K) (a := p3)) (fun H' g => SqL.of (Gr.lst g e3)) (fun _ => rfl) (fun _ => rfl) (by rw [List.length_append]; omega) nD fun H4 ps g4 hD hp => ?_
    refine ⟨D, ps, onesS (ks ++ f.As), rfl, SqL.of hD, Paired.mapP hp fun p kv h => SqT.of h, fun d1 nd1 => ?_⟩
    rw [show mergeK [] (onesS (ks ++ f.As)) = onesS ((ks ++ f.As).foldl addS []) from mergeK_ones _ []]
    have hlen : ((ks ++ f.As).foldl addS []).length ≤ 20 := by
      have := foldl_len (ks ++ f.As) []
      rw [List.length_append] at this
      simp only [List.length_nil] at this
      omega
    refine ⟨d1, _, _, rfl, .inl upd_same, dkF_keys, by omega, fun ys p5 hperm hsort n5 => ?_⟩
    have g5 : Gr a H (upd (upd H4 d1 (.dK (onesS ((ks ++ f.As).foldl addS [])))) p5 (.lst (ys.map V.str))) := (g03.trans g4).trans ((Gx.new nd1).trans (Gx.new n5))
    have e5 : upd (upd H4 d1 (.dK (onesS ((ks ++ f.As).foldl addS [])))) p5 (.lst (ys.map V.str)) p5 = some (.lst (strV ys)) := upd_same
    generalize upd (upd H4 d1 _) p5 _ = H5 at *
    have lys : ys.length ≤ 20 := by rw [hperm.length_eq]; exact hlen
    dsimp only [gName]
    refine ⟨_, rfl, p5, rfl, ⟨_, SqL.of e5⟩, fun D6 nD6 => ?_⟩
    refine lc_list (K := K) (a := p5) (xs := strV ys) (fun i H' => Gr a H5 H' ∧ ∃ acc, H' D6 = some (.lst acc) ∧ acc.length ≤ i) ⟨Gx.new nD6, _, upd_same, Nat.le_refl _⟩ (fun i H' _ ⟨g, _⟩ => SqL.of (Gr.lst g e5)) ?_ ?_
    · rintro i x H' hx ⟨g, acc, hD6, hac⟩
      obtain ⟨z, hz, rfl⟩ := strV_get hx
      have hi : i < ys.length := (List.getElem?_eq_some_iff.mp hz).1
      have g' := g5.trans g
      have M' := M.gr g'
      have hb' := Gr.dk g' hb
      obtain ⟨n6, hp6⟩ := M'.ins
      obtain ⟨o1, q1, s1⟩ := dget_or (k := z) (.inl hb')
      obtain ⟨o2, q2, s2⟩ := dget_or (k := z) (.inl M'.h)
      have f1 : ∃ y, (if z ∈ ks then optS (h0 z) else V.non) = optS y := by split; exact ⟨_, rfl⟩; exact ⟨none, rfl⟩
      have f2 : ∃ y, (if z ∈ f.As then optS (f.hd z) else V.non) = optS y := by split; exact ⟨_, rfl⟩; exact ⟨none, rfl⟩
      obtain ⟨y1, f1⟩ := f1
      obtain ⟨y2, f2⟩ := f2
      refine ⟨rfl, ?_⟩
      refine ⟨_, rfl, b, rfl, .inl ⟨_, .inl hb'⟩, _, rfl, o1, q1, ?_⟩
      refine ⟨_, rfl, F.p, a.cF, F.dx, _, _, rfl, hp6, T.cl_F, T.n_F_held, ff_held, F.dh, rfl, .inl ⟨_, .inl M'.h⟩, _, rfl, o2, q2, ?_⟩
      rw [s1, f1, s2, f2]
      refine ⟨optS_scal _ _, _, rfl, ?_⟩
      cases hc : (!decide (optS y1 = optS y2)) with
      | false => exact iteF ⟨g, acc, hD6, Nat.le_succ_of_le hac⟩
      | true =>
        refine iteT ?_
        refine ⟨_, rfl, _, rfl, b, rfl, .inl ⟨_, .inl hb'⟩, _, rfl, o1, q1, ?_⟩
        refine ⟨_, rfl, F.p, a.cF, F.dx, _, _, rfl, hp6, T.cl_F, T.n_F_held, ff_held, F.dh, rfl, .inl ⟨_, .inl M'.h⟩, _, rfl, o2, q2, ?_⟩
        refine ⟨by show 3 ≤ sizeLine; decide, fun T7 n7 => ?_⟩
        have hD7 := new_keep (o := .tup [V.str z, o1.getD .non, o2.getD .non]) hD6 n7
        refine ⟨_, hD7, sz1000 (by omega), Gx.app (g.trans (Gx.new n7)) nD6 hD7 rfl, _, upd_same, ?_⟩
        rw [List.length_append, List.length_singleton]; omega
    · rintro H' ⟨g, acc, hD6, hac⟩
      refine ⟨D6, _, rfl, SqL.of hD6, fun l H7 nl pl ne' ⟨o, e⟩ => ?_⟩
      refine k _ H7 ((g5.trans g).trans ?_)
      rw [e]
      exact Gx.new nl
end
end K6

/-! ## KFair8 -/
set_option maxRecDepth 100000
set_option maxHeartbeats 4000000
/-! Fair.come, set_room. -/
namespace K6
open PySem PySem.Spec PyProof.Rows L2
theorem dput_a {H : Hp} {d : Addr} {ks : List Str} {f : Str → V} {k : Str} {v : V} (h : H d = some (.dK (dkF ks f))) (hl : ks.length ≤ 1000) : DPut H d (.str k) v (upd H d (.dK (dkF (addS ks k) (DA.setF f k v)))) := by
  unfold addS
  by_cases hk : k ∈ ks
  · rw [if_pos hk]; exact dput_w h hk hl
  · rw [if_neg hk]; exact dput_n h hk hl
section
variable {a : Ad} {H : Hp} {F : FAd} {f : Fr}
theorem FairAt.lw (M : FairAt a H F f) : ∃ lp : Str → Addr, H F.dl = some (.dK (dkF f.As fun k => .ref (lp k))) ∧ ∀ k, k ∈ f.As → PT H (lp k) (strV (f.ls k)) := by
  obtain ⟨lp, e, r⟩ := M.l
  obtain ⟨lp2, e2⟩ := M.wl
  rcases e with e | ⟨o, e⟩
  · exact ⟨lp, e, r⟩
  · rw [e2] at e; cases e
theorem FairAt.ow (M : FairAt a H F f) : ∃ lp : Str → Addr, H F.dr = some (.dK (dkF f.Rs fun k => .ref (lp k))) ∧ ∀ k, k ∈ f.Rs → PT H (lp k) (strV (f.os k)) := by
  obtain ⟨lp, e, r⟩ := M.o
  obtain ⟨lp2, e2⟩ := M.wo
  rcases e with e | ⟨o, e⟩
  · exact ⟨lp, e, r⟩
  · rw [e2] at e; cases e
theorem FairAt.frzOut (M : FairAt a H F f) {t : Addr} {o : Obj} {u : HO} (h : H t = some (.frz o u)) : t ∉ F.S := by
  obtain ⟨n, hp⟩ := M.ins
  obtain ⟨_, hl⟩ := M.wl
  obtain ⟨_, ho⟩ := M.wo
  have hs := M.s
  have hh := M.h
  have hn := M.n
  intro z
  simp only [FAd.S, List.mem_cons, List.not_mem_nil, or_false] at z
  rcases z with rfl | rfl | rfl | rfl | rfl | rfl
  · rw [h] at hp; cases hp
  · rw [h] at hl; cases hl
  · rw [h] at ho; cases ho
  · rw [h] at hs; cases hs
  · rw [h] at hh; cases hh
  · rw [h] at hn; cases hn
theorem FairAt.out (M : FairAt a H F f) {t : Addr} (h : H t = none) : t ∉ F.S := by
  obtain ⟨n, hp⟩ := M.ins
  obtain ⟨_, hl⟩ := M.wl
  obtain ⟨_, ho⟩ := M.wo
  have hs := M.s
  have hh := M.h
  have hn := M.n
  intro z
  simp only [FAd.S, List.mem_cons, List.not_mem_nil, or_false] at z
  rcases z with rfl | rfl | rfl | rfl | rfl | rfl
  · rw [h] at hp; cases hp
  · rw [h] at hl; cases hl
  · rw [h] at ho; cases ho
  · rw [h] at hs; cases hs
  · rw [h] at hh; cases hh
  · rw [h] at hn; cases hn
theorem FairAt.pt {H' : Hp} (M : FairAt a H F f) {t : Addr} {xs : List V} (h : PT H t xs) (g : Gx a F.S H H') : PT H' t xs := by
  obtain ⟨o, e, r⟩ := id h
  exact h.gx g (M.frzOut e)
theorem PT.updD {x t : Addr} {xs : List V} {kvs : List (Key × V)} {o : HO} (h : PT H t xs) (hx : H x = some (.dK kvs)) : PT (upd H x o) t xs := by
  obtain ⟨o', e, r⟩ := h
  exact ⟨o', by rw [upd_ne (ne_of e hx (by intro z; cases z))]; exact e, r⟩
theorem lsts_put {d t : Addr} {ks : List Str} {g : Str → List Str} {lp : Str → Addr} {k : Str} {l : List Str} (h1 : H d = some (.dK (dkF ks fun k => .ref (lp k)))) (h2 : ∀ k, k ∈ ks → PT H (lp k) (strV (g k))) (ht : PT H t (strV l)) :
    upd H d (.dK (dkF (addS ks k) (DA.setF (fun k => V.ref (lp k)) k (V.ref t)))) d = some (.dK (dkF (addS ks k) fun z => .ref (DA.setF lp k t z))) ∧
    LstsAt (upd H d (.dK (dkF (addS ks k) (DA.setF (fun k => V.ref (lp k)) k (V.ref t))))) d (addS ks k) (DA.setF g k l) := by
  have e : DA.setF (fun k => V.ref (lp k)) k (V.ref t) = fun z => V.ref (DA.setF lp k t z) := (setF_fun V.ref lp k t).symm
  rw [e]
  refine ⟨upd_same, DA.setF lp k t, .inl upd_same, fun z hz => ?_⟩
  by_cases hzk : z = k
  · subst hzk
    rw [DA.setF_same, DA.setF_same]
    exact ht.updD h1
  · rw [DA.setF_ne _ _ hzk, DA.setF_ne _ _ hzk]
    exact (h2 z ((mem_addS.mp hz).resolve_right hzk)).updD h1
end
/-- the fair with another list of x's -/
def Fr.tell (f : Fr) (x : Str) (l : List Str) : Fr := { f with As := addS f.As x, ls := DA.setF f.ls x l }
/-- the fair with another order and other seats of r's -/
def Fr.room (f : Fr) (r : Str) (l : List Str) (c : Nat) : Fr := { f with Rs := addS f.Rs r, os := DA.setF f.os r l, st := DA.setF f.st r c }
def okL (l : List Str) : Prop := l.Nodup ∧ l.length ≤ 100
theorem addS_nodup {l : List Str} {k : Str} (h : l.Nodup) : (addS l k).Nodup := by
  unfold addS
  by_cases hk : k ∈ l
  · rw [if_pos hk]; exact h
  · rw [if_neg hk]; exact nd_snoc h hk
theorem Fr.Ok.tell {f : Fr} (ok : f.Ok) {x : Str} {l : List Str} (hl : okL l) (hs : ∀ z, z ∈ l → PyData.strOk z = true) (hx : PyData.strOk x = true) (hc : (addS f.As x).length ≤ 10) : (f.tell x l).Ok := by
  refine ⟨addS_nodup ok.nA, ok.nR, hc, ok.cR, fun k hk => ?_, ok.dR, fun k => ?_, ok.wo, fun z hz => ?_, fun k z hz => ?_⟩
  · have hk : k ∉ addS f.As x := hk
    have h1 : k ∉ f.As := fun z => hk (mem_addS.mpr (.inl z))
    have h2 : k ≠ x := fun z => hk (mem_addS.mpr (.inr z))
    refine ⟨?_, (ok.dA k h1).2⟩
    show DA.setF f.ls x l k = []
    rw [DA.setF_ne _ _ h2]; exact (ok.dA k h1).1
  · show (DA.setF f.ls x l k).Nodup ∧ (DA.setF f.ls x l k).length ≤ 100
    by_cases h : k = x
    · rw [h, DA.setF_same]; exact hl
    · rw [DA.setF_ne _ _ h]; exact ok.wl k
  · rcases mem_addS.mp hz with h | h
    · exact ok.sA z h
    · rw [h]; exact hx
  · have hz : z ∈ DA.setF f.ls x l k := hz
    by_cases h : k = x
    · rw [h, DA.setF_same] at hz; exact hs z hz
    · rw [DA.setF_ne _ _ h] at hz; exact ok.sL k z hz
theorem Fr.Ok.room {f : Fr} (ok : f.Ok) {r : Str} {l : List Str} {c : Nat} (hl : okL l) (hc : (addS f.Rs r).length ≤ 2) : (f.room r l c).Ok := by
  refine ⟨ok.nA, addS_nodup ok.nR, ok.cA, hc, ok.dA, fun k hk => ?_, ok.wl, fun k => ?_, ok.sA, ok.sL⟩
  · have hk : k ∉ addS f.Rs r := hk
    have h1 : k ∉ f.Rs := fun z => hk (mem_addS.mpr (.inl z))
    have h2 : k ≠ r := fun z => hk (mem_addS.mpr (.inr z))
    refine ⟨?_, ?_⟩
    · show DA.setF f.os r l k = []
      rw [DA.setF_ne _ _ h2]; exact (ok.dR k h1).1
    · show DA.setF f.st r c k = 0
      rw [DA.setF_ne _ _ h2]; exact (ok.dR k h1).2
  · show (DA.setF f.os r l k).Nodup ∧ (DA.setF f.os r l k).length ≤ 100
    by_cases h : k = r
    · rw [h, DA.setF_same]; exact hl
    · rw [DA.setF_ne _ _ h]; exact ok.wo k
/-- a deed: the fair comes to be g but for who is held -/
def deedQ (a : Ad) (F : FAd) (H : Hp) (g : Fr) (Q : VK) : Prop := ∀ v H' nx' hd', FairAt a H' F { g with nx := nx', hd := hd' } → Fr.Ok { g with nx := nx', hd := hd' } → DA.Final g.m ⟨nx', hd'⟩ → Gx a F.S H H' → Q v H'
def spFCome (a : Ad) : Sp := fun vs H Q _ => ∃ (F : FAd) (f : Fr) (x : Str) (t : Addr) (l : List Str), vs = [.ref F.p, .str x, .ref t] ∧ FairAt a H F f ∧ f.Ok ∧ DA.Final f.m f.s ∧ x ∉ f.As ∧ PT H t (strV l) ∧ okL l ∧ (∀ z, z ∈ l → PyData.strOk z = true) ∧ PyData.strOk x = true ∧ f.As.length < 10 ∧ deedQ a F H (f.tell x l) Q
theorem come_inv {f : Fr} (ok : f.Ok) {x : Str} {l : List Str} (hx : x ∉ f.As) (F : DA.Final f.m f.s) : ∃ ts T, DA.Inv (f.tell x l).m f.s ts T := by
  obtain ⟨ts, T, I⟩ := F.inv
  obtain ⟨d1, d2, d3⟩ := ok.dA x hx
  have := I.reset (M' := (f.tell x l).m) (Z := fun z => decide (z = x)) (fun z h => ?_) (fun z r h => ?_) (fun z r _ _ => ⟨rfl, rfl⟩) (fun z b r _ _ hb h => ?_)
  · refine ⟨ts, T, ?_⟩
    have e : DA.anew (fun z => decide (z = x)) f.s = f.s := by
      unfold DA.anew
      show DA.St.mk _ _ = DA.St.mk _ _
      congr 1
      · funext z
        by_cases h : z = x
        · rw [if_pos (decide_eq_true h), h]; exact d2.symm
        · rw [if_neg (by simpa using h)]; rfl
      · funext z
        by_cases h : z = x
        · rw [if_pos (decide_eq_true h), h]; exact d3.symm
        · rw [if_neg (by simpa using h)]; rfl
    rw [e] at this
    exact this
  · show DA.setF f.ls x l z = f.ls z
    exact DA.setF_ne _ _ (by simpa using h)
  · show (r ∈ DA.setF f.ls x l z ∧ _) ↔ _
    rw [DA.setF_ne _ _ (by simpa using h)]
    exact Iff.rfl
  · have h : b = x := of_decide_eq_true h
    have := hb.1
    rw [h, show f.m.pref x = f.ls x from rfl, d1] at this
    cases this
section
variable {P : Program} {w : World} {K : PySem.W.Frag} {mg : Str → Option Value} {base : Heap} {a : Ad}
theorem sc_F_come : FnScope ["self", "asker", "rooms", "before"] ["self", "asker", "rooms"] (defScope s_F_come) := ⟨rfl, rfl, rfl, by decide +kernel, rfl, by decide +kernel, by decide +kernel⟩
theorem ff_un {F : FAd} {n : Int} {x : Str} (h : (x == "lists" || x == "orders" || x == "seats" || x == "held" || x == "next" || x == "asks") = false) : (ff F n).lookup x = none := by
  simp only [Bool.or_eq_false_iff, beq_eq_false_iff_ne] at h
  obtain ⟨⟨⟨⟨⟨h1, h2⟩, h3⟩, h4⟩, h5⟩, h6⟩ := h
  exact ff_no h1 h2 h3 h4 h5 h6
theorem ok_F_come (T : Txt K mg base a) : FnOk P w K mg base CX0 4 a.f_F_come a.d_F_come ["self", "asker", "rooms"] (spFCome a) := by
  have GG : FnOk P w K mg base CX0 3 a.f_F_go_on a.d_F_go_on ["self"] (spFGo a) := ok_F_go_on T
  have GT : FnOk P w K mg base CX0 1 a.f_F_told a.d_F_told ["self", "before"] (spFTold a) := ok_F_told T
  have GC : FnOk P w K mg base CX0 1 a.f_g_check_words a.d_g_check_words ["words"] (spCheckWords a) := ok_check_words T
  refine T.F_F_come.ok sc_F_come (fun vs H Q E h => ?_) (fun cdv A outer s H vs Q E hr h => ?_)
  · obtain ⟨F, f, x, t, l, rfl, _⟩ := h
    rfl
  · obtain ⟨F, f, x, t, l, rfl, M, ok, Fi, hx, ht, hl, hs, hxs, hcA, k⟩ := h
    have hu := hu_of hr
    have nd := sc_F_come.nd
    have hr1 : Room 1 _ := hr.mono (by decide)
    refine ⟨_, pss_cons (ps_if (pt_cmp (pc_din hu (pv 1) (pe_fld (pv 0) rfl)) rfl) pss_never pss_nil)
      (pss_cons (ps_set (i := 3) nd rfl (Or.inl rfl) (pe_callTy call_dictD (by rfl) T.z_dict bt_dict (pa_cons (pe_fld (pv 0) rfl) pa_nil)))
      (pss_cons (ps_dput hu (pe_fld (pv 0) rfl) (pv 1) (pe_call GC hr1 (by rfl) T.g_g_check_words T.F_g_check_words.kp T.b_g_check_words .nil pass0 (pa_cons (pv 2) pa_nil)) (by rfl))
      (pss_cons (ps_dput hu (pe_fld (pv 0) rfl) (pv 1) pe_non (by rfl))
      (pss_cons (ps_dput hu (pe_fld (pv 0) rfl) (pv 1) pe_int (by rfl))
      (pss_cons (ps_expr (pe_meth0 (pv 0) T.cl_F T.m_F_go_on GG hr T.b_F_go_on .nil pass0))
      (pss_one (ps_ret (pe_meth (pv 0) T.cl_F T.m_F_told GT hr1 T.b_F_told .nil pass0 (pa_cons (pv 3) pa_nil))))))))), ?_⟩
    obtain ⟨n, hp⟩ := M.ins
    obtain ⟨lp, hl0, hlp⟩ := M.lw
    obtain ⟨o1, d1, s1⟩ := dget_in (k := x) (.inl hl0)
    have cA : f.As.length ≤ 1000 := Nat.le_trans ok.cA (by decide)
    refine ⟨_, rfl, _, rfl, F.p, a.cF, F.dx, _, _, rfl, hp, T.cl_F, T.n_F_lists, ff_lists, F.dl, o1, rfl, d1, _, rfl, ?_⟩
    rw [s1, decide_eq_false hx]
    refine iteF ?_
    -- before = dict(self.held)
    refine ⟨_, rfl, F.p, a.cF, F.dx, _, _, rfl, hp, T.cl_F, T.n_F_held, ff_held, F.dh, _, rfl, .inl M.h, fun b nb => ?_⟩
    have g1 : Gr a H (upd H b (.dK (dkF f.As fun k => optS (f.hd k)))) := Gx.new nb
    have hb : upd H b (.dK (dkF f.As fun k => optS (f.hd k))) b = some (.dK (dkF f.As fun k => optS (f.hd k))) := upd_same
    have M1 := M.gr g1
    have ht1 := ht.gr g1
    have bS : b ∉ F.S := M.out nb
    generalize upd H b _ = H1 at *
    -- self.lists[asker] = check_words(rooms)
    refine ⟨_, rfl, t, l, rfl, ht1, hl.1, hl.2, fun H2 g2 => ?_⟩
    have M2 := M1.gr g2
    have ht2 := ht1.gr g2
    have hb2 := Gr.dk g2 hb
    obtain ⟨n2, hp2⟩ := M2.ins
    obtain ⟨lp2, hl2, hlp2⟩ := M2.lw
    refine ⟨_, rfl, F.p, a.cF, F.dx, _, _, rfl, hp2, T.cl_F, T.n_F_lists, ff_lists, _, rfl, F.dl, _, rfl, dput_a hl2 cA, ?_⟩
    obtain ⟨m1, m2, m3, m4, m5, m6, m7, m8, m9, m10⟩ := M2.ne
    obtain ⟨w3, L3⟩ := lsts_put (k := x) hl2 hlp2 ht2
    have h3h : upd H2 F.dl (.dK (dkF (addS f.As x) (DA.setF (fun k => V.ref (lp2 k)) x (V.ref t)))) F.dh = _ := (upd_ne m3.symm).trans M2.h
    have h3n : upd H2 F.dl (.dK (dkF (addS f.As x) (DA.setF (fun k => V.ref (lp2 k)) x (V.ref t)))) F.dn = _ := (upd_ne m4.symm).trans M2.n
    have h3s : upd H2 F.dl (.dK (dkF (addS f.As x) (DA.setF (fun k => V.ref (lp2 k)) x (V.ref t)))) F.ds = _ := (upd_ne m2.symm).trans M2.s
    have h3p : upd H2 F.dl (.dK (dkF (addS f.As x) (DA.setF (fun k => V.ref (lp2 k)) x (V.ref t)))) F.p = _ := upd_inD hp2 hl2
    have h3o : LstsAt (upd H2 F.dl (.dK (dkF (addS f.As x) (DA.setF (fun k => V.ref (lp2 k)) x (V.ref t))))) F.dr f.Rs f.os := M2.o.upd hl2 m1.symm
    obtain ⟨rp2, hr2⟩ := M2.wo
    have h3r : upd H2 F.dl (.dK (dkF (addS f.As x) (DA.setF (fun k => V.ref (lp2 k)) x (V.ref t)))) F.dr = _ := (upd_ne m1.symm).trans hr2
    have g3 : Gx a F.S H2 (upd H2 F.dl (.dK (dkF (addS f.As x) (DA.setF (fun k => V.ref (lp2 k)) x (V.ref t))))) := Gx.set hl2 rfl (by simp [FAd.S])
    generalize upd H2 F.dl _ = H3 at *
    -- self.held[asker] = None
    refine ⟨_, rfl, F.p, a.cF, F.dx, _, _, rfl, h3p, T.cl_F, T.n_F_held, ff_held, _, rfl, F.dh, _, rfl, dput_a h3h cA, ?_⟩
    obtain ⟨q1, q2, q3⟩ := ok.dA x hx
    have eh : DA.setF (fun k => optS (f.hd k)) x V.non = fun k => optS (f.hd k) := by
      funext z
      unfold DA.setF
      by_cases h : z = x
      · rw [if_pos h, h, q3]; rfl
      · rw [if_neg h]
    rw [eh]
    have h4h : upd H3 F.dh (.dK (dkF (addS f.As x) fun k => optS (f.hd k))) F.dh = _ := upd_same
    have h4n : upd H3 F.dh (.dK (dkF (addS f.As x) fun k => optS (f.hd k))) F.dn = _ := (upd_ne m10.symm).trans h3n
    have h4s : upd H3 F.dh (.dK (dkF (addS f.As x) fun k => optS (f.hd k))) F.ds = _ := (upd_ne m8).trans h3s
    have h4p : upd H3 F.dh (.dK (dkF (addS f.As x) fun k => optS (f.hd k))) F.p = _ := upd_inD h3p h3h
    have h4l : upd H3 F.dh (.dK (dkF (addS f.As x) fun k => optS (f.hd k))) F.dl = _ := (upd_ne m3).trans w3
    have h4r : upd H3 F.dh (.dK (dkF (addS f.As x) fun k => optS (f.hd k))) F.dr = _ := (upd_ne m6).trans h3r
    have h4o : LstsAt (upd H3 F.dh (.dK (dkF (addS f.As x) fun k => optS (f.hd k)))) F.dr f.Rs f.os := h3o.upd h3h m6
    have h4L : LstsAt (upd H3 F.dh (.dK (dkF (addS f.As x) fun k => optS (f.hd k)))) F.dl (addS f.As x) (DA.setF f.ls x l) := L3.upd h3h m3
    have g4 : Gx a F.S H3 (upd H3 F.dh (.dK (dkF (addS f.As x) fun k => optS (f.hd k)))) := Gx.set h3h rfl (by simp [FAd.S])
    generalize upd H3 F.dh _ = H4 at *
    -- self.next[asker] = 0
    refine ⟨_, rfl, F.p, a.cF, F.dx, _, _, rfl, h4p, T.cl_F, T.n_F_next, ff_next, _, rfl, F.dn, _, rfl, dput_a h4n cA, ?_⟩
    have en : DA.setF (fun k => V.int (f.nx k : Nat)) x (V.int 0) = fun k => V.int (f.nx k : Nat) := by
      funext z
      unfold DA.setF
      by_cases h : z = x
      · rw [if_pos h, h, q2]; rfl
      · rw [if_neg h]
    rw [en]
    have M5 : FairAt a (upd H4 F.dn (.dK (dkF (addS f.As x) fun k => .int (f.nx k : Nat)))) F (f.tell x l) :=
      ⟨⟨⟨_, upd_inD h4p h4n⟩, h4L.upd h4n m4, h4o.upd h4n m7, (upd_ne m9).trans h4s, (upd_ne m10).trans h4h, upd_same⟩, ⟨_, (upd_ne m4).trans h4l⟩, ⟨_, (upd_ne m7).trans h4r⟩, M.nd⟩
    have g5 : Gx a F.S H4 (upd H4 F.dn (.dK (dkF (addS f.As x) fun k => .int (f.nx k : Nat)))) := Gx.set h4n rfl (by simp [FAd.S])
    generalize upd H4 F.dn _ = H5 at *
    have g05 : Gx a F.S H H5 := g1.to.trans (g2.to.trans (g3.trans (g4.trans g5)))
    have lx : (addS f.As x).length ≤ 10 := by
      have := addS_len (l := f.As) (k := x)
      omega
    have ok5 := ok.tell hl hs hxs lx
    obtain ⟨ts, Tm, I5⟩ := come_inv (l := l) ok hx Fi
    -- self.go_on(); return self.told(before)
    obtain ⟨n5, hp5⟩ := M5.ins
    refine ⟨_, rfl, F.p, F.dx, _, rfl, hp5, ff_un (by decide +kernel), F, _, ts, Tm, rfl, M5, ok5, I5, fun v6 H6 nx6 hd6 M6 ok6 F6 g6 => ?_⟩
    obtain ⟨n6, hp6⟩ := M6.ins
    have hb6 : H6 b = some (.dK (dkF f.As fun k => optS (f.hd k))) := g6.dk (g5.dk (g4.dk (g3.dk hb2 bS) bS) bS) bS
    refine ⟨_, rfl, F.p, F.dx, _, rfl, hp6, ff_un (by decide +kernel), _, rfl, F, _, b, f.As, f.hd, rfl, M6, ok6, hb6, ok.cA, fun v7 H7 g7 => ?_⟩
    exact k v7 H7 nx6 hd6 (M6.gr g7) ok6 F6 (g05.trans (g6.trans g7.to))
end
end K6

/-! ## KFair9 -/
set_option maxRecDepth 100000
set_option maxHeartbeats 4000000
/-! Fair.set_room, open_room, change_room. -/
namespace K6
open PySem PySem.Spec PyProof.Rows L2
def spFSetRoom (a : Ad) : Sp := fun vs H Q _ => ∃ (F : FAd) (f : Fr) (r : Str) (t : Addr) (l : List Str) (c : Nat), vs = [.ref F.p, .str r, .ref t, .int (c : Nat)] ∧ FairAt a H F f ∧ f.Rs.length ≤ 1000 ∧ PT H t (strV l) ∧ ∀ v H', FairAt a H' F (f.room r l c) → Gx a F.S H H' → Q v H'
def spFOpen (a : Ad) : Sp := fun vs H Q _ => ∃ (F : FAd) (f : Fr) (r : Str) (t : Addr) (l : List Str) (c : Nat), vs = [.ref F.p, .str r, .ref t, .int (c : Nat)] ∧ FairAt a H F f ∧ f.Ok ∧ DA.Final f.m f.s ∧ r ∉ f.Rs ∧ PT H t (strV l) ∧ okL l ∧ f.Rs.length < 2 ∧ deedQ a F H (f.room r l c) Q
def spFChange (a : Ad) : Sp := fun vs H Q _ => ∃ (F : FAd) (f : Fr) (r : Str) (t : Addr) (l : List Str) (c : Nat), vs = [.ref F.p, .str r, .ref t, .int (c : Nat)] ∧ FairAt a H F f ∧ f.Ok ∧ DA.Final f.m f.s ∧ r ∈ f.Rs ∧ PT H t (strV l) ∧ okL l ∧ deedQ a F H (f.room r l c) Q
theorem likes_As {f : Fr} (ok : f.Ok) {x r : Str} (h : DA.likes f.m x r) : x ∈ f.As := Classical.byContradiction fun z => by
  have h := h.1
  rw [show f.m.pref x = f.ls x from rfl, (ok.dA x z).1] at h; cases h
/-- a part is closed -/
theorem part_closed {f : Fr} (ok : f.Ok) {zs : List Str} {I J : Str → Prop} (h1 : ∀ z, z ∈ zs ↔ z ∈ f.As ∧ I z) (h2 : ∀ x r, DA.likes f.m x r → (I x ↔ J r)) : DA.Closed f.m (fun z => decide (z ∈ zs)) J := fun x r hl => by
  rw [decide_eq_true_eq, h1]
  exact ⟨fun h => (h2 x r hl).mp h.2, fun h => ⟨likes_As ok hl, (h2 x r hl).mpr h⟩⟩
theorem open_inv {f : Fr} (ok : f.Ok) {r : Str} {l : List Str} {c : Nat} (hr : r ∉ f.Rs) (F : DA.Final f.m f.s) (ok2 : (f.room r l c).Ok) {zs : List Str} {I J : Str → Prop} (h1 : ∀ z, z ∈ zs ↔ z ∈ f.As ∧ I z)
    (h2 : ∀ x q, DA.likes (f.room r l c).m x q → (I x ↔ J q)) (hj : J r) : ∃ ts T, DA.Inv (f.room r l c).m (DA.anew (fun z => decide (z ∈ zs)) f.s) ts T := by
  obtain ⟨ts, T, I0⟩ := F.inv
  refine ⟨ts, T, ?_⟩
  have := I0.reset2 (M' := (f.room r l c).m) (Z1 := fun _ => false) (Y1 := fun q => q = r) (fun x q hl => ?_) (part_closed ok2 h1 h2) (fun _ _ => rfl) (fun q hq => ?_)
  · simpa using this
  · refine ⟨fun h => (by cases h), fun h => ?_⟩
    subst h
    have h := hl.2
    rw [show f.m.ord q = f.os q from rfl, (ok.dR q hr).1] at h; cases h
  · have hne : q ≠ r := fun e => hq.elim (fun z => z e) fun z => z (e ▸ hj)
    exact ⟨DA.setF_ne _ _ hne, DA.setF_ne _ _ hne⟩
theorem change_inv {f : Fr} (ok : f.Ok) {r : Str} {l : List Str} {c : Nat} (F : DA.Final f.m f.s) (ok2 : (f.room r l c).Ok) {zs ys ps : List Str} {I J I' J' : Str → Prop} (h1 : ∀ z, z ∈ zs ↔ z ∈ f.As ∧ I z)
    (h2 : ∀ x q, DA.likes f.m x q → (I x ↔ J q)) (hj : J r) (h3 : ∀ z, z ∈ ys ↔ z ∈ f.As ∧ I' z) (h4 : ∀ x q, DA.likes (f.room r l c).m x q → (I' x ↔ J' q)) (hj' : J' r) (hp : ∀ z, z ∈ ps ↔ z ∈ zs ∨ z ∈ ys) :
    ∃ ts T, DA.Inv (f.room r l c).m (DA.anew (fun z => decide (z ∈ ps)) f.s) ts T := by
  obtain ⟨ts, T, I0⟩ := F.inv
  refine ⟨ts, T, ?_⟩
  have := I0.reset2 (M' := (f.room r l c).m) (part_closed ok h1 h2) (part_closed ok2 h3 h4) (fun _ _ => rfl) (fun q hq => by
    have hne : q ≠ r := fun e => hq.elim (fun z => z (e ▸ hj)) fun z => z (e ▸ hj')
    exact ⟨DA.setF_ne _ _ hne, DA.setF_ne _ _ hne⟩)
  have e : (fun z => decide (z ∈ ps)) = fun z => decide (z ∈ zs) || decide (z ∈ ys) := by
    funext z
    rw [Bool.eq_iff_iff, Bool.or_eq_true, decide_eq_true_eq, decide_eq_true_eq, decide_eq_true_eq]
    exact hp z
  rw [e]; exact this
theorem wish_inv {f : Fr} (ok : f.Ok) {x : Str} {l : List Str} (F : DA.Final f.m f.s) (ok2 : (f.tell x l).Ok) (hx : x ∈ f.As) {zs ys ps : List Str} {I J I' J' : Str → Prop} (h1 : ∀ z, z ∈ zs ↔ z ∈ f.As ∧ I z)
    (h2 : ∀ x q, DA.likes f.m x q → (I x ↔ J q)) (hi : I x) (h3 : ∀ z, z ∈ ys ↔ z ∈ addS f.As x ∧ I' z) (h4 : ∀ y q, DA.likes (f.tell x l).m y q → (I' y ↔ J' q)) (hp : ∀ z, z ∈ ps ↔ z ∈ zs ∨ z ∈ ys) :
    ∃ ts T, DA.Inv (f.tell x l).m (DA.anew (fun z => decide (z ∈ ps)) f.s) ts T := by
  obtain ⟨ts, T, I0⟩ := F.inv
  refine ⟨ts, T, ?_⟩
  have := I0.reset2 (M' := (f.tell x l).m) (part_closed ok h1 h2) (part_closed ok2 h3 h4) (fun z hz => by
    have hne : z ≠ x := fun e => hz (decide_eq_true ((h1 z).mpr ⟨e ▸ hx, e ▸ hi⟩))
    exact DA.setF_ne _ _ hne) (fun q hq => ⟨rfl, rfl⟩)
  have e : (fun z => decide (z ∈ ps)) = fun z => decide (z ∈ zs) || decide (z ∈ ys) := by
    funext z
    rw [Bool.eq_iff_iff, Bool.or_eq_true, decide_eq_true_eq, decide_eq_true_eq, decide_eq_true_eq]
    exact hp z
  rw [e]; exact this
theorem more_walk {K : PySem.W.Frag} {a : Ad} {σ : L2.St} {i j : Nat} {H1 : Hp} {D D1 D2 : Addr} {Qd : Hp → Prop} {zs ys : List Str}
    (hw : ∀ v : V, wipe ((wipe σ [j]).set j (some v)) [j] = wipe σ [j]) (hv : ∀ v : V, ((wipe σ [j]).set j (some v))[j]? = some (some v)) (hi : ∀ v : V, ((wipe σ [j]).set j (some v))[i]? = some (some (V.ref D1))) (hl : ys.length ≤ 1000) (nD : H1 D = none)
    (h1 : H1 D1 = some (.lst (strV zs))) (h2 : H1 D2 = some (.lst (strV ys)))
    (k : ∀ H2, Gr a H1 H2 → H2 D = some (.lst (strV (ys.filter fun z => !decide (z ∈ zs)))) → Qd H2) :
    ∃ W : Nat → Nat → Hp → Prop, (∃ m, W 0 m (upd H1 D (.lst []))) ∧ ∀ q m H, W q m H →
      ((Itl K D2).stop q H ∧ Qd H) ∨ ((Itl K D2).go q H ∧ ∃ Nx : Hp → Prop, (∀ H', Nx H' → ∃ m', m' < m ∧ W (q + 1) m' H') ∧ ∀ x H', (Itl K D2).yld q H x H' → gName j x (wipe σ [j]) H' fun σ2 H2 => wipe σ2 [j] = wipe σ [j] ∧ tTest (tOp (rIn K true) (tVar j) (tVar i)) σ2 H2 fun b H3 =>
        if b = true then tVar j σ2 H3 fun y H4 => ∃ acc, H4 D = some (.lst acc) ∧ acc.length < sizeLine ∧ Nx (upd H4 D (.lst (acc ++ [y]))) else Nx H3) := by
  refine lc_list (K := K) (a := D2) (xs := strV ys) (fun q H' => Gr a H1 H' ∧ H' D = some (.lst (strV ((ys.take q).filter fun z => !decide (z ∈ zs))))) ⟨Gx.new nD, upd_same⟩ (fun i H' _ ⟨g, _⟩ => SqL.of (Gr.lst g h2)) ?_ ?_
  · rintro q x H' hx ⟨g, hD⟩
    obtain ⟨z, hz, rfl⟩ := strV_get hx
    refine ⟨hw _, ?_⟩
    refine ⟨_, hv _, _, hi _, D1, _, rfl, .inl (SqL.of (Gr.lst g h1)), rfl, strV_flat _, _, rfl, ?_⟩
    rw [show (if true = true then !inV (V.str z) (strV zs) else inV (V.str z) (strV zs)) = !inV (V.str z) (strV zs) from rfl, inV_str]
    cases hc : (!decide (z ∈ zs)) with
    | true =>
      refine iteT ?_
      refine ⟨_, hv _, _, hD, sz1000 (by rw [strV_len]; exact Nat.le_trans (List.length_filter_le _ _) (Nat.le_trans (List.length_take_le' ..) hl)), Gx.app g nD hD rfl, ?_⟩
      rw [upd_same, strV_snoc, filt_yes (p := fun z => !decide (z ∈ zs)) hz hc]
    | false =>
      refine iteF ⟨g, ?_⟩
      rw [filt_no (p := fun z => !decide (z ∈ zs)) hz hc]
      exact hD
  · rintro H' ⟨g, hD⟩
    rw [strV_len, List.take_length] at hD
    exact k H' g hD
/-- a list of ours is changed -/
theorem FairAt.gx1 {a : Ad} {H H' : Hp} {F : FAd} {f : Fr} {D : Addr} (M : FairAt a H F f) (g : Gx a [D] H H') (hD : D ∉ F.S) (hDf : ∀ (t : Addr) (xs : List V), PT H t xs → t ≠ D) : FairAt a H' F f := by
  have nS : ∀ {b : Addr}, b ∈ F.S → b ∉ [D] := fun hb z => hD (by rw [← List.mem_singleton.mp z]; exact hb)
  have ls : ∀ {d : Addr} {ks : List Str} {h : Str → List Str}, d ∈ F.S → LstsAt H d ks h → LstsAt H' d ks h := fun hd ⟨lp, e, r⟩ => ⟨lp, g.rd e (nS hd), fun k hk => (r k hk).gx g fun z => hDf _ _ (r k hk) (List.mem_singleton.mp z)⟩
  exact ⟨⟨M.ins.imp fun _ x => g.ins x (nS (by simp [FAd.S])), ls (by simp [FAd.S]) M.l, ls (by simp [FAd.S]) M.o, g.dk M.s (nS (by simp [FAd.S])), g.dk M.h (nS (by simp [FAd.S])), g.dk M.n (nS (by simp [FAd.S]))⟩,
    M.wl.imp fun _ x => g.dk x (nS (by simp [FAd.S])), M.wo.imp fun _ x => g.dk x (nS (by simp [FAd.S])), M.nd⟩
theorem Gx.keepNew {a : Ad} {S : List Addr} {H H1 : Hp} {D : Addr} {o o' : HO} (g : Gx a S H H1) (hD : H1 D = some o) (hn : plain o = true) (n : H D = none) : Gx a S H (upd H1 D o') := by
  have g1 : Gx a [D] H1 (upd H1 D o') := Gx.set hD hn (by simp)
  exact ⟨fun b u e hb hn' => g1.keep b u (g.keep b u e hb hn') (fun z => by rw [List.mem_singleton.mp z, n] at e; cases e) hn', fun t => g1.tb (g.tb t), fun b e => g.free b (g1.free b e)⟩
/-- the parts' lengths -/
theorem part_len {f : Fr} (ok : f.Ok) {zs : List Str} {I : Str → Prop} (h : ∀ z, z ∈ zs ↔ z ∈ f.As ∧ I z) (nd : zs.Nodup) : zs.length ≤ 10 := by
  have h1 : (zs.filter fun z => decide (z ∈ zs)).length = (f.As.filter fun z => decide (z ∈ zs)).length :=
    DA.countP_eq_of nd ok.nA (fun x hx => of_decide_eq_true hx) fun x hx => ((h x).mp (of_decide_eq_true hx)).1
  have h2 : zs.filter (fun z => decide (z ∈ zs)) = zs := List.filter_eq_self.mpr fun z hz => decide_eq_true hz
  rw [h2] at h1
  rw [h1]
  exact Nat.le_trans (List.length_filter_le _ _) ok.cA
section
variable {P : Program} {w : World} {K : PySem.W.Frag} {mg : Str → Option Value} {base : Heap} {a : Ad}
theorem sc_F_set : FnScope ["self", "room", "askers", "count"] ["self", "room", "askers", "count"] (defScope s_F_set_room) := ⟨rfl, rfl, rfl, by decide +kernel, rfl, by decide +kernel, by decide +kernel⟩
theorem ok_F_set (T : Txt K mg base a) : FnOk P w K mg base CX0 1 a.f_F_set_room a.d_F_set_room ["self", "room", "askers", "count"] (spFSetRoom a) := by
  refine T.F_F_set_room.ok sc_F_set (fun vs H Q E h => ?_) (fun cdv A outer s H vs Q E hr h => ?_)
  · obtain ⟨F, f, r, t, l, c, rfl, _⟩ := h
    rfl
  · obtain ⟨F, f, r, t, l, c, rfl, M, cR, ht, k⟩ := h
    have hu := hu_of hr
    refine ⟨_, pss_cons (ps_if (pt_cmpR op_lt (pv 3) pe_int (nomark _)) pss_never pss_nil) (pss_cons (ps_dput hu (pe_fld (pv 0) rfl) (pv 1) (pv 2) (by rfl)) (pss_one (ps_dput hu (pe_fld (pv 0) rfl) (pv 1) (pv 3) (by rfl)))), ?_⟩
    obtain ⟨n, hp⟩ := M.ins
    obtain ⟨rp, hr0, hrp⟩ := M.ow
    obtain ⟨m1, m2, m3, m4, m5, m6, m7, m8, m9, m10⟩ := M.ne
    refine ⟨_, rfl, _, _, rfl, rfl, _, rfl, ?_⟩
    rw [show decide (((c : Nat) : Int) < 0) = false from decide_eq_false (by omega)]
    refine iteF ?_
    refine ⟨_, rfl, _, rfl, F.p, a.cF, F.dx, _, _, rfl, hp, T.cl_F, T.n_F_orders, ff_orders, _, rfl, F.dr, _, rfl, dput_a hr0 cR, ?_⟩
    obtain ⟨w3, L3⟩ := lsts_put (k := r) hr0 hrp ht
    have h3h : upd H F.dr (.dK (dkF (addS f.Rs r) (DA.setF (fun k => V.ref (rp k)) r (V.ref t)))) F.dh = _ := (upd_ne m6.symm).trans M.h
    have h3n : upd H F.dr (.dK (dkF (addS f.Rs r) (DA.setF (fun k => V.ref (rp k)) r (V.ref t)))) F.dn = _ := (upd_ne m7.symm).trans M.n
    have h3s : upd H F.dr (.dK (dkF (addS f.Rs r) (DA.setF (fun k => V.ref (rp k)) r (V.ref t)))) F.ds = _ := (upd_ne m5.symm).trans M.s
    have h3p : upd H F.dr (.dK (dkF (addS f.Rs r) (DA.setF (fun k => V.ref (rp k)) r (V.ref t)))) F.p = _ := upd_inD hp hr0
    have h3o : LstsAt (upd H F.dr (.dK (dkF (addS f.Rs r) (DA.setF (fun k => V.ref (rp k)) r (V.ref t))))) F.dl f.As f.ls := M.l.upd hr0 m1
    obtain ⟨lp2, hl2⟩ := M.wl
    have h3l : upd H F.dr (.dK (dkF (addS f.Rs r) (DA.setF (fun k => V.ref (rp k)) r (V.ref t)))) F.dl = _ := (upd_ne m1).trans hl2
    have g3 : Gx a F.S H (upd H F.dr (.dK (dkF (addS f.Rs r) (DA.setF (fun k => V.ref (rp k)) r (V.ref t))))) := Gx.set hr0 rfl (by simp [FAd.S])
    generalize upd H F.dr _ = H3 at *
    refine ⟨_, rfl, _, rfl, F.p, a.cF, F.dx, _, _, rfl, h3p, T.cl_F, T.n_F_seats, ff_seats, _, rfl, F.ds, _, rfl, dput_a h3s cR, ?_⟩
    have es : DA.setF (fun k => V.int (f.st k : Nat)) r (V.int (c : Nat)) = fun k => V.int (DA.setF f.st r c k : Nat) := (setF_fun (fun n : Nat => V.int (n : Nat)) f.st r c).symm
    rw [es]
    refine k _ _ ⟨⟨⟨_, upd_inD h3p h3s⟩, h3o.upd h3s m2, L3.upd h3s m5, upd_same, (upd_ne m8.symm).trans h3h, (upd_ne m9.symm).trans h3n⟩, ⟨_, (upd_ne m2).trans h3l⟩, ⟨_, (upd_ne m5).trans w3⟩, M.nd⟩ (g3.trans (Gx.set h3s rfl (by simp [FAd.S])))
theorem sc_F_open : FnScope ["self", "room", "askers", "count", "before"] ["self", "room", "askers", "count"] (defScope s_F_open_room) := ⟨rfl, rfl, rfl, by decide +kernel, rfl, by decide +kernel, by decide +kernel⟩
theorem ok_F_open (T : Txt K mg base a) : FnOk P w K mg base CX0 5 a.f_F_open_room a.d_F_open_room ["self", "room", "askers", "count"] (spFOpen a) := by
  have GS : FnOk P w K mg base CX0 1 a.f_F_set_room a.d_F_set_room ["self", "room", "askers", "count"] (spFSetRoom a) := ok_F_set T
  have GP : FnOk P w K mg base CX0 2 a.f_F_part_of a.d_F_part_of ["self", "askers", "rooms"] (spFPart a) := ok_F_part T
  have GA : FnOk P w K mg base CX0 4 a.f_F_ask_anew a.d_F_ask_anew ["self", "askers"] (spFAnew a) := ok_F_anew T
  have GT : FnOk P w K mg base CX0 1 a.f_F_told a.d_F_told ["self", "before"] (spFTold a) := ok_F_told T
  have GC : FnOk P w K mg base CX0 1 a.f_g_check_words a.d_g_check_words ["words"] (spCheckWords a) := ok_check_words T
  refine T.F_F_open_room.ok sc_F_open (fun vs H Q E h => ?_) (fun cdv A outer s H vs Q E hr h => ?_)
  · obtain ⟨F, f, r, t, l, c, rfl, _⟩ := h
    rfl
  · obtain ⟨F, f, r, t, l, c, rfl, M, ok, Fi, hrR, ht, hl, hcR, k⟩ := h
    have hu := hu_of hr
    have nd := sc_F_open.nd
    have hr1 : Room 1 _ := hr.mono (by decide)
    have hr2 : Room 2 _ := hr.mono (by decide)
    refine ⟨_, pss_cons (ps_if (pt_cmp (pc_din hu (pv 1) (pe_fld (pv 0) rfl)) rfl) pss_never pss_nil)
      (pss_cons (ps_set (i := 4) nd rfl (Or.inl rfl) (pe_callTy call_dictD (by rfl) T.z_dict bt_dict (pa_cons (pe_fld (pv 0) rfl) pa_nil)))
      (pss_cons (ps_expr (pe_meth (pv 0) T.cl_F T.m_F_set_room GS hr1 T.b_F_set_room .nil pass0 (pa_cons (pv 1) (pa_cons (pe_call GC hr1 (by rfl) T.g_g_check_words T.F_g_check_words.kp T.b_g_check_words .nil pass0 (pa_cons (pv 2) pa_nil)) (pa_cons (pv 3) pa_nil)))))
      (pss_cons (ps_expr (pe_meth (pv 0) T.cl_F T.m_F_ask_anew GA hr T.b_F_ask_anew .nil pass0 (pa_cons (pe_meth (pv 0) T.cl_F T.m_F_part_of GP hr2 T.b_F_part_of .nil pass0 (pa_cons (pe_lst pa_nil) (pa_cons (pe_lst (pa_cons (pv 1) pa_nil)) pa_nil))) pa_nil)))
      (pss_one (ps_ret (pe_meth (pv 0) T.cl_F T.m_F_told GT hr1 T.b_F_told .nil pass0 (pa_cons (pv 4) pa_nil))))))), ?_⟩
    obtain ⟨n, hp⟩ := M.ins
    obtain ⟨rp, hr0, hrp⟩ := M.ow
    obtain ⟨o1, d1, s1⟩ := dget_in (k := r) (.inl hr0)
    refine ⟨_, rfl, _, rfl, F.p, a.cF, F.dx, _, _, rfl, hp, T.cl_F, T.n_F_orders, ff_orders, F.dr, o1, rfl, d1, _, rfl, ?_⟩
    rw [s1, decide_eq_false hrR]
    refine iteF ?_
    -- before = dict(self.held)
    refine ⟨_, rfl, F.p, a.cF, F.dx, _, _, rfl, hp, T.cl_F, T.n_F_held, ff_held, F.dh, _, rfl, .inl M.h, fun b nb => ?_⟩
    have g1 : Gr a H (upd H b (.dK (dkF f.As fun k => optS (f.hd k)))) := Gx.new nb
    have hb : upd H b (.dK (dkF f.As fun k => optS (f.hd k))) b = some (.dK (dkF f.As fun k => optS (f.hd k))) := upd_same
    have M1 := M.gr g1
    have ht1 := ht.gr g1
    have bS : b ∉ F.S := M.out nb
    generalize upd H b _ = H1 at *
    obtain ⟨n1, hp1⟩ := M1.ins
    -- self.set_room(room, check_words(askers), count)
    refine ⟨_, rfl, F.p, F.dx, _, rfl, hp1, ff_un (by decide +kernel), _, rfl, _, rfl, t, l, rfl, ht1, hl.1, hl.2, fun H2 g2 => ?_⟩
    have M2 := M1.gr g2
    refine ⟨_, rfl, F, f, r, t, l, c, rfl, M2, by omega, ht1.gr g2, fun v3 H3 M3 g3 => ?_⟩
    have lr : (addS f.Rs r).length ≤ 2 := by
      have := addS_len (l := f.Rs) (k := r)
      omega
    have ok3 := ok.room (r := r) (l := l) (c := c) hl lr
    obtain ⟨n3, hp3⟩ := M3.ins
    -- self.ask_anew(self.part_of([], [room]))
    refine ⟨_, rfl, F.p, F.dx, _, rfl, hp3, ff_un (by decide +kernel), _, rfl, F.p, F.dx, _, rfl, hp3, ff_un (by decide +kernel), Nat.zero_le _, fun e1 ne1 => ?_⟩
    refine ⟨_, rfl, by show 1 ≤ sizeLine; decide, fun e2 ne2 => ?_⟩
    have g4 : Gr a H3 (upd (upd H3 e1 (.lst [])) e2 (.lst [V.str r])) := (Gx.new ne1).trans (Gx.new ne2)
    have he1 : upd (upd H3 e1 (.lst [])) e2 (.lst [V.str r]) e1 = some (.lst (strV [])) := new_keep upd_same ne2
    have he2 : upd (upd H3 e1 (.lst [])) e2 (.lst [V.str r]) e2 = some (.lst (strV [r])) := upd_same
    generalize upd (upd H3 e1 _) e2 _ = H4 at *
    have M4 := M3.gr g4
    refine ⟨F, _, e1, e2, [], [r], rfl, M4, ok3, he1, he2, List.nodup_nil, by simp, Nat.zero_le _, by simp, fun D H5 zs I J g5 nD hD hzs hzn hcl hxs hys => ?_⟩
    have M5 := M4.gr g5
    obtain ⟨ts, Tm, I5⟩ := open_inv ok hrR Fi ok3 hzs hcl (hys r (by simp))
    refine ⟨F, _, D, zs, ts, Tm, rfl, M5, ok3, hD, fun z hz => ((hzs z).mp hz).1, I5, fun v6 H6 nx6 hd6 M6 ok6 F6 g6 => ?_⟩
    obtain ⟨n6, hp6⟩ := M6.ins
    have g26 : Gx a F.S H2 H6 := g3.trans (g4.to.trans (g5.to.trans g6))
    have hb6 : H6 b = some (.dK (dkF f.As fun k => optS (f.hd k))) := g26.dk (Gr.dk g2 hb) bS
    refine ⟨_, rfl, F.p, F.dx, _, rfl, hp6, ff_un (by decide +kernel), _, rfl, F, _, b, f.As, f.hd, rfl, M6, ok6, hb6, ok.cA, fun v7 H7 g7 => ?_⟩
    exact k v7 H7 nx6 hd6 (M6.gr g7) ok6 F6 (g1.to.trans (g2.to.trans (g26.trans g7.to)))
theorem sc_F_change : FnScope ["self", "room", "askers", "count", "fresh", "before", "part", "one"] ["self", "room", "askers", "count"] (defScope s_F_change_room) := ⟨rfl, rfl, rfl, by decide +kernel, rfl, by decide +kernel, by decide +kernel⟩
theorem ok_F_change (T : Txt K mg base a) : FnOk P w K mg base CX0 5 a.f_F_change_room a.d_F_change_room ["self", "room", "askers", "count"] (spFChange a) := by
  have GS : FnOk P w K mg base CX0 1 a.f_F_set_room a.d_F_set_room ["self", "room", "askers", "count"] (spFSetRoom a) := ok_F_set T
  have GP : FnOk P w K mg base CX0 2 a.f_F_part_of a.d_F_part_of ["self", "askers", "rooms"] (spFPart a) := ok_F_part T
  have GA : FnOk P w K mg base CX0 4 a.f_F_ask_anew a.d_F_ask_anew ["self", "askers"] (spFAnew a) := ok_F_anew T
  have GT : FnOk P w K mg base CX0 1 a.f_F_told a.d_F_told ["self", "before"] (spFTold a) := ok_F_told T
  have GC : FnOk P w K mg base CX0 1 a.f_g_check_words a.d_g_check_words ["words"] (spCheckWords a) := ok_check_words T
  refine T.F_F_change_room.ok sc_F_change (fun vs H Q E h => ?_) (fun cdv A outer s H vs Q E hr h => ?_)
  · obtain ⟨F, f, r, t, l, c, rfl, _⟩ := h
    rfl
  · obtain ⟨F, f, r, t, l, c, rfl, M, ok, Fi, hrR, ht, hl, k⟩ := h
    have hu := hu_of hr
    have nd := sc_F_change.nd
    have hr1 : Room 1 _ := hr.mono (by decide)
    have hr2 : Room 2 _ := hr.mono (by decide)
    refine ⟨_, pss_cons (ps_if (pt_cmp (pc_dnotin hu (pv 1) (pe_fld (pv 0) rfl)) rfl) pss_never pss_nil)
      (pss_cons (ps_par (i := 4) (j := 5) rfl nd rfl rfl (by decide) rfl rfl (pa_cons (pe_call GC hr1 (by rfl) T.g_g_check_words T.F_g_check_words.kp T.b_g_check_words .nil pass0 (pa_cons (pv 2) pa_nil)) (pa_cons (pe_callTy call_dictD (by rfl) T.z_dict bt_dict (pa_cons (pe_fld (pv 0) rfl) pa_nil)) pa_nil)) (by rfl))
      (pss_cons (ps_if (pt_cmpR op_lt (pv 3) pe_int (nomark _)) pss_never pss_nil)
      (pss_cons (ps_set (i := 6) nd rfl (by first | exact Or.inl rfl | exact Or.inr rfl) (pe_meth (pv 0) T.cl_F T.m_F_part_of GP hr2 T.b_F_part_of .nil pass0 (pa_cons (pe_lst pa_nil) (pa_cons (pe_lst (pa_cons (pv 1) pa_nil)) pa_nil))))
      (pss_cons (ps_expr (pe_meth (pv 0) T.cl_F T.m_F_set_room GS hr1 T.b_F_set_room .nil pass0 (pa_cons (pv 1) (pa_cons (pv 4) (pa_cons (pv 3) pa_nil)))))
      (pss_cons (ps_aug (i := 6) nd rfl (by first | exact Or.inl rfl | exact Or.inr rfl)
          (pe_lc (own := [("one", 7)]) (g := gName 7) (te := tVar 7) rfl nd (pi_list (pe_meth (pv 0) T.cl_F T.m_F_part_of GP hr2 T.b_F_part_of .nil pass0 (pa_cons (pe_lst pa_nil) (pa_cons (pe_lst (pa_cons (pv 1) pa_nil)) pa_nil))))
            (blkOk_by (N := ["self", "room", "askers", "count", "fresh", "before", "part", "one"]) (sc := defScope s_F_change_room) (by decide +kernel))
            (fun _ _ _ _ _ => pg_name (i := 7) nd rfl (Or.inl rfl)) (fun _ _ _ _ _ => pts_one (pt_cmpR (r := rIn K true) op_notIn_seq (pv 7) (pv 6) rfl)) (fun _ _ _ _ _ => pv 7)) iop_ext)
      (pss_cons (ps_expr (pe_meth (pv 0) T.cl_F T.m_F_ask_anew GA hr T.b_F_ask_anew .nil pass0 (pa_cons (pe_callB cr_sortedS (by rfl) T.z_sorted bt_sorted (pa_cons (pv 6) pa_nil)) pa_nil)))
      (pss_one (ps_ret (pe_meth (pv 0) T.cl_F T.m_F_told GT hr1 T.b_F_told .nil pass0 (pa_cons (pv 5) pa_nil)))))))))), ?_⟩
    obtain ⟨n, hp⟩ := M.ins
    obtain ⟨rp, hr0, hrp⟩ := M.ow
    obtain ⟨o1, d1, s1⟩ := dget_in (k := r) (.inl hr0)
    dsimp only [tNext, tSeq]
    refine ⟨_, rfl, _, rfl, F.p, a.cF, F.dx, _, _, rfl, hp, T.cl_F, T.n_F_orders, ff_orders, F.dr, o1, rfl, d1, _, rfl, ?_⟩
    rw [s1, decide_eq_true hrR]
    refine iteF ?_
    -- fresh, before = (check_words(askers), dict(self.held))
    refine ⟨_, rfl, t, l, rfl, ht, hl.1, hl.2, fun H0 g0 => ?_⟩
    have M0 := M.gr g0
    obtain ⟨n0, hp0⟩ := M0.ins
    refine ⟨_, rfl, F.p, a.cF, F.dx, _, _, rfl, hp0, T.cl_F, T.n_F_held, ff_held, F.dh, _, rfl, .inl M0.h, fun b nb => ?_⟩
    have g1 : Gr a H (upd H0 b (.dK (dkF f.As fun k => optS (f.hd k)))) := g0.trans (Gx.new nb)
    have hb : upd H0 b (.dK (dkF f.As fun k => optS (f.hd k))) b = some (.dK (dkF f.As fun k => optS (f.hd k))) := upd_same
    have M1 := M0.gr (Gx.new (o := .dK (dkF f.As fun k => optS (f.hd k))) nb)
    have ht1 := ht.gr g1
    have bS : b ∉ F.S := M0.out nb
    generalize upd H0 b _ = H1 at *
    refine ⟨_, _, rfl, ?_⟩
    refine ⟨_, rfl, _, _, rfl, rfl, _, rfl, ?_⟩
    rw [show decide (((c : Nat) : Int) < 0) = false from decide_eq_false (by omega)]
    refine iteF ?_
    -- part = self.part_of([], [room])
    obtain ⟨n1, hp1⟩ := M1.ins
    refine ⟨_, rfl, F.p, F.dx, _, rfl, hp1, ff_un (by decide +kernel), Nat.zero_le _, fun e1 ne1 => ?_⟩
    refine ⟨_, rfl, by show 1 ≤ sizeLine; decide, fun e2 ne2 => ?_⟩
    have g2 : Gr a H1 (upd (upd H1 e1 (.lst [])) e2 (.lst [V.str r])) := (Gx.new ne1).trans (Gx.new ne2)
    have he1 : upd (upd H1 e1 (.lst [])) e2 (.lst [V.str r]) e1 = some (.lst (strV [])) := new_keep upd_same ne2
    have he2 : upd (upd H1 e1 (.lst [])) e2 (.lst [V.str r]) e2 = some (.lst (strV [r])) := upd_same
    generalize upd (upd H1 e1 _) e2 _ = H2 at *
    have M2 := M1.gr g2
    refine ⟨F, _, e1, e2, [], [r], rfl, M2, ok, he1, he2, List.nodup_nil, by simp, Nat.zero_le _, by simp, fun D1 H3 zs I J g3 nD1 hD1 hzs hzn hcl hxs hys => ?_⟩
    have M3 := M2.gr g3
    obtain ⟨n3, hp3⟩ := M3.ins
    have hD1S := M3.lstOut hD1
    -- self.set_room(room, fresh, count)
    refine ⟨_, rfl, F.p, F.dx, _, rfl, hp3, ff_un (by decide +kernel), _, rfl, _, rfl, _, rfl, F, f, r, t, l, c, rfl, M3, by have := ok.cR; omega, (ht1.gr g2).gr g3, fun v4 H4 M4 g4 => ?_⟩
    have lr : (addS f.Rs r).length ≤ 2 := by unfold addS; rw [if_pos hrR]; exact ok.cR
    have ok4 := ok.room (r := r) (l := l) (c := c) hl lr
    obtain ⟨n4, hp4⟩ := M4.ins
    have hD1' : H4 D1 = some (.lst (strV zs)) := g4.lst hD1 hD1S
    -- part += [one for one in self.part_of([], [room]) if one not in part]
    refine ⟨_, rfl, ?_⟩
    refine ⟨_, rfl, F.p, F.dx, _, rfl, hp4, ff_un (by decide +kernel), Nat.zero_le _, fun e3 ne3 => ?_⟩
    refine ⟨_, rfl, by show 1 ≤ sizeLine; decide, fun e4 ne4 => ?_⟩
    have g5 : Gr a H4 (upd (upd H4 e3 (.lst [])) e4 (.lst [V.str r])) := (Gx.new ne3).trans (Gx.new ne4)
    have he3 : upd (upd H4 e3 (.lst [])) e4 (.lst [V.str r]) e3 = some (.lst (strV [])) := new_keep upd_same ne4
    have he4 : upd (upd H4 e3 (.lst [])) e4 (.lst [V.str r]) e4 = some (.lst (strV [r])) := upd_same
    generalize upd (upd H4 e3 _) e4 _ = H5 at *
    have M5 := M4.gr g5
    refine ⟨F, _, e3, e4, [], [r], rfl, M5, ok4, he3, he4, List.nodup_nil, by simp, Nat.zero_le _, by simp, fun D2 H6 ys I' J' g6 nD2 hD2 hys2 hyn hcl' hxs' hys' => ?_⟩
    have M6 := M5.gr g6
    have lz := part_len ok hzs hzn
    have ly := part_len ok4 hys2 hyn
    refine ⟨D2, rfl, ⟨_, SqL.of hD2⟩, fun D nD => ?_⟩
    refine more_walk (K := K) (a := a) (i := 6) (j := 7) (D1 := D1) (zs := zs) (ys := ys) (fun _ => rfl) (fun _ => rfl) (fun _ => rfl) (by omega) nD (Gr.lst (g5.trans g6) hD1') hD2 fun H7 g7 hD => ?_
    have hD17 := Gr.lst (g5.trans (g6.trans g7)) hD1'
    have lf : (ys.filter fun z => !decide (z ∈ zs)).length ≤ 10 := Nat.le_trans (List.length_filter_le _ _) ly
    refine ⟨D1, D, _, _, rfl, rfl, hD17, hD, Nat.le_of_lt (sz1000 (by rw [strV_len, strV_len]; omega)), ?_⟩
    have g8 : Gx a [D1] H7 (upd H7 D1 (.lst (strV zs ++ strV (ys.filter fun z => !decide (z ∈ zs))))) := Gx.set hD17 rfl (by simp)
    have hD8 : upd H7 D1 (.lst (strV zs ++ strV (ys.filter fun z => !decide (z ∈ zs)))) D1 = some (.lst (strV (zs ++ ys.filter fun z => !decide (z ∈ zs)))) := by rw [upd_same]; simp [strV]
    have M8 : FairAt a (upd H7 D1 (.lst (strV zs ++ strV (ys.filter fun z => !decide (z ∈ zs))))) F (f.room r l c) := (M6.gr g7).gx1 g8 hD1S fun t xs ⟨o, e, _⟩ z => by rw [z, hD17] at e; cases e
    have hb8 : upd H7 D1 (.lst (strV zs ++ strV (ys.filter fun z => !decide (z ∈ zs)))) b = some (.dK (dkF f.As fun k => optS (f.hd k))) :=
      upd_dk (Gr.dk (g5.trans (g6.trans g7)) (g4.dk (Gr.dk (g2.trans g3) hb) bS)) hD17
    have g18 : Gx a F.S H1 (upd H7 D1 (.lst (strV zs ++ strV (ys.filter fun z => !decide (z ∈ zs))))) := by
      refine Gx.keepNew ((g2.trans g3).to.trans (g4.trans (g5.trans (g6.trans g7)).to)) hD17 rfl ?_
      exact g2.free _ nD1
    generalize upd H7 D1 _ = H8 at *
    obtain ⟨n8, hp8⟩ := M8.ins
    -- self.ask_anew(sorted(part))
    refine ⟨_, rfl, F.p, F.dx, _, rfl, hp8, ff_un (by decide +kernel), _, rfl, D1, _, rfl, SqL.of hD8, by rw [List.length_append]; omega, fun ps p9 hperm hsort n9 => ?_⟩
    have g9 : Gr a H8 (upd H8 p9 (.lst (ps.map V.str))) := Gx.new n9
    have hps : ∀ z, z ∈ ps ↔ z ∈ zs ∨ z ∈ ys := fun z => by
      rw [hperm.mem_iff, List.mem_append, List.mem_filter]
      by_cases h : z ∈ zs <;> simp [h]
    obtain ⟨ts, Tm, I9⟩ := change_inv ok Fi ok4 hzs hcl (hys r (by simp)) hys2 hcl' (hys' r (by simp)) hps
    refine ⟨F, _, p9, ps, ts, Tm, rfl, M8.gr g9, ok4, upd_same, fun z hz => ?_, I9, fun v6 H10 nx10 hd10 M10 ok10 F10 g10 => ?_⟩
    · rcases (hps z).mp hz with h | h
      · exact ((hzs z).mp h).1
      · exact ((hys2 z).mp h).1
    obtain ⟨n10, hp10⟩ := M10.ins
    have hb10 : H10 b = some (.dK (dkF f.As fun k => optS (f.hd k))) := g10.dk (Gr.dk g9 hb8) bS
    refine ⟨_, rfl, F.p, F.dx, _, rfl, hp10, ff_un (by decide +kernel), _, rfl, F, _, b, f.As, f.hd, rfl, M10, ok10, hb10, ok.cA, fun v7 H11 g11 => ?_⟩
    exact k v7 H11 nx10 hd10 (M10.gr g11) ok10 F10 (g1.to.trans (g18.trans (g9.to.trans (g10.trans g11.to))))
end
end K6

/-! ## KFairA -/
set_option maxRecDepth 100000
set_option maxHeartbeats 4000000
/-! Fair.wish. -/
namespace K6
open PySem PySem.Spec PyProof.Rows L2
def spFWish (a : Ad) : Sp := fun vs H Q _ => ∃ (F : FAd) (f : Fr) (x : Str) (t : Addr) (l : List Str), vs = [.ref F.p, .str x, .ref t] ∧ FairAt a H F f ∧ f.Ok ∧ DA.Final f.m f.s ∧ x ∈ f.As ∧ PT H t (strV l) ∧ okL l ∧ (∀ z, z ∈ l → PyData.strOk z = true) ∧ deedQ a F H (f.tell x l) Q
theorem cut_str {l : List Str} {n : Nat} : cutV (strV l) none (some (n : Int)) = strV (l.take n) := by
  unfold cutV
  rw [HT.sIx_none, HT.sIx_nat, strV_len, List.drop_zero, Nat.sub_zero]
  unfold strV
  rw [← List.map_take]
  congr 1
  by_cases h : n ≤ l.length
  · rw [Nat.min_eq_left h]
  · rw [Nat.min_eq_right (by omega), List.take_of_length_le (Nat.le_refl _), List.take_of_length_le (by omega)]
theorem slice_str {K : PySem.W.Frag} {a : Ad} {H : Hp} {p : Addr} {l : List Str} {n : Nat} {Q : VK} (h : SqT K H p (strV l)) (k : ∀ q H', Gr a H H' → SqT K H' q (strV (l.take n)) → Q (.ref q) H') : rSlA K (.ref p) none (some (n : Int)) H Q := by
  refine ⟨p, strV l, rfl, h, fun ⟨_, e⟩ => ?_, fun _ q nq => ?_⟩
  · rw [HT.sIx_nat, strV_len] at e
    refine k p H Gx.refl ?_
    rw [List.take_of_length_le (by omega)]; exact h
  · rw [cut_str]
    exact k q _ (Gx.new nq) (SqT.of upd_same)
theorem dpStr {K : PySem.W.Frag} {H : Hp} : ∀ xs : List Str, DpAll K H (strV xs) (xs.map PyData.str)
  | [] => .nil
  | x :: xs => .cons (.str _) (dpStr xs)
theorem eqvAll_str : ∀ l k : List Str, PyData.eqvAll (l.map PyData.str) (k.map PyData.str) = decide (l = k)
  | [], [] => rfl
  | [], _ :: _ => rfl
  | _ :: _, [] => rfl
  | x :: l, y :: k => by
    show ((x == y) && PyData.eqvAll (l.map PyData.str) (k.map PyData.str)) = _
    rw [eqvAll_str l k]
    by_cases h : x = y
    · subst h; simp
    · simp [h]
theorem str_ok {xs : List Str} (h : ∀ z, z ∈ xs → PyData.strOk z = true) : ∀ d, d ∈ xs.map PyData.str → d.canLay0 = true ∧ d.depth ≤ 60 := fun d hd => by
  obtain ⟨z, hz, rfl⟩ := List.mem_map.mp hd
  exact ⟨h z hz, Nat.zero_le _⟩
/-- two tuples of words are equal -/
theorem eq_tups {K : PySem.W.Frag} {H : Hp} {p q : Addr} {l k : List Str} {Q : VK} (h1 : SqT K H p (strV l)) (h2 : SqT K H q (strV k)) (s1 : ∀ z, z ∈ l → PyData.strOk z = true) (s2 : ∀ z, z ∈ k → PyData.strOk z = true) (hq : Q (.bl (decide (l = k))) H) : rEqD K (.ref p) (.ref q) H Q := by
  refine ⟨.tuple (l.map .str), .tuple (k.map .str), .tup h1 (dpStr l), .tup h2 (dpStr k), shaped_tup (str_ok s1), shaped_tup (str_ok s2), ?_⟩
  show Q (.bl (PyData.eqvAll _ _)) H
  rw [eqvAll_str]; exact hq
theorem wish_same {f : Fr} (ok : f.Ok) {x : Str} {l : List Str} (F : DA.Final f.m f.s) (hh : f.hd x ≠ none) (ht : l.take (f.nx x) = (f.ls x).take (f.nx x)) : DA.Final (f.tell x l).m f.s := by
  obtain ⟨ts, T, I⟩ := F.inv
  refine ⟨⟨ts, T, I.relist (M' := (f.tell x l).m) hh (fun z hz => DA.setF_ne _ _ hz) rfl rfl ?_⟩, fun z hz => ?_⟩
  · show (DA.setF f.ls x l x).take _ = _
    rw [DA.setF_same]; exact ht
  · have hne : z ≠ x := fun e => hh (e ▸ hz)
    show (DA.setF f.ls x l z).length ≤ _
    rw [DA.setF_ne _ _ hne]; exact F.fin z hz
theorem Fr.tell_As {f : Fr} {x : Str} {l : List Str} (h : x ∈ f.As) : addS f.As x = f.As := by unfold addS; rw [if_pos h]
section
variable {P : Program} {w : World} {K : PySem.W.Frag} {mg : Str → Option Value} {base : Heap} {a : Ad}
/-- self.lists[asker] = fresh -/
theorem FairAt.setL {H : Hp} {F : FAd} {f : Fr} {x : Str} {t : Addr} {l : List Str} (M : FairAt a H F f) (hx : x ∈ f.As) (ht : PT H t (strV l)) {lp : Str → Addr} (h1 : H F.dl = some (.dK (dkF f.As fun k => .ref (lp k)))) (h2 : ∀ k, k ∈ f.As → PT H (lp k) (strV (f.ls k))) :
    FairAt a (upd H F.dl (.dK (dkF (addS f.As x) (DA.setF (fun k => V.ref (lp k)) x (V.ref t))))) F (f.tell x l) ∧ Gx a F.S H (upd H F.dl (.dK (dkF (addS f.As x) (DA.setF (fun k => V.ref (lp k)) x (V.ref t))))) := by
  obtain ⟨m1, m2, m3, m4, m5, m6, m7, m8, m9, m10⟩ := M.ne
  obtain ⟨w3, L3⟩ := lsts_put (k := x) h1 h2 ht
  have eA : (f.tell x l).As = f.As := Fr.tell_As (l := l) hx
  refine ⟨⟨⟨M.ins.imp fun _ h => upd_inD h h1, L3, M.o.upd h1 m1.symm, (upd_ne m2.symm).trans M.s, ?_, ?_⟩, ⟨_, w3⟩, M.wo.imp fun _ h => (upd_ne m1.symm).trans h, M.nd⟩, Gx.set h1 rfl (by simp [FAd.S])⟩
  · rw [eA]; exact (upd_ne m3.symm).trans M.h
  · rw [eA]; exact (upd_ne m4.symm).trans M.n
theorem sc_F_wish : FnScope ["self", "asker", "rooms", "fresh", "before", "old", "count", "part", "one"] ["self", "asker", "rooms"] (defScope s_F_wish) := ⟨rfl, rfl, rfl, by decide +kernel, rfl, by decide +kernel, by decide +kernel⟩
theorem ok_F_wish (T : Txt K mg base a) : FnOk P w K mg base CX0 5 a.f_F_wish a.d_F_wish ["self", "asker", "rooms"] (spFWish a) := by
  have GP : FnOk P w K mg base CX0 2 a.f_F_part_of a.d_F_part_of ["self", "askers", "rooms"] (spFPart a) := ok_F_part T
  have GA : FnOk P w K mg base CX0 4 a.f_F_ask_anew a.d_F_ask_anew ["self", "askers"] (spFAnew a) := ok_F_anew T
  have GT : FnOk P w K mg base CX0 1 a.f_F_told a.d_F_told ["self", "before"] (spFTold a) := ok_F_told T
  have GC : FnOk P w K mg base CX0 1 a.f_g_check_words a.d_g_check_words ["words"] (spCheckWords a) := ok_check_words T
  refine T.F_F_wish.ok sc_F_wish (fun vs H Q E h => ?_) (fun cdv A outer s H vs Q E hr h => ?_)
  · obtain ⟨F, f, x, t, l, rfl, _⟩ := h
    rfl
  · obtain ⟨F, f, x, t, l, rfl, M, ok, Fi, hx, ht, hl, hs, k⟩ := h
    have hu := hu_of hr
    have nd := sc_F_wish.nd
    have hr1 : Room 1 _ := hr.mono (by decide)
    have hr2 : Room 2 _ := hr.mono (by decide)
    refine ⟨_, pss_cons (ps_if (pt_cmp (pc_dnotin hu (pv 1) (pe_fld (pv 0) rfl)) rfl) pss_never pss_nil)
      (pss_cons (ps_par3 (i := 3) (j := 4) (l := 5) rfl nd rfl rfl rfl (by decide) (by decide) (by decide) rfl rfl rfl (pa_cons (pe_call GC hr1 (by rfl) T.g_g_check_words T.F_g_check_words.kp T.b_g_check_words .nil pass0 (pa_cons (pv 2) pa_nil)) (pa_cons (pe_callTy call_dictD (by rfl) T.z_dict bt_dict (pa_cons (pe_fld (pv 0) rfl) pa_nil)) (pa_cons (pe_dget hu (pe_fld (pv 0) rfl) (pv 1) (fun _ _ => rfl)) pa_nil))) (by rfl))
      (pss_cons (ps_set (i := 6) nd rfl (by first | exact Or.inl rfl | exact Or.inr rfl) (pe_dget hu (pe_fld (pv 0) rfl) (pv 1) (fun _ _ => rfl)))
      (pss_cons (ps_if (PW.pt (pw_and (pt_cmpR op_notN (pe_dget hu (pe_fld (pv 0) rfl) (pv 1) (fun _ _ => rfl)) pe_non (nomark _)) (pw_and1 (pt_cmpR (op_eqD hr.units) (pe_slice sl_tupA (pv 3) po_none (po_some (pv 6))) (pe_slice sl_tupA (pv 5) po_none (po_some (pv 6))) (nomark _)))))
          (pss_cons (ps_dput hu (pe_fld (pv 0) rfl) (pv 1) (pv 3) (by rfl)) (pss_one (ps_ret (pe_tup pa_nil)))) pss_nil)
      (pss_cons (ps_set (i := 7) nd rfl (by first | exact Or.inl rfl | exact Or.inr rfl) (pe_meth (pv 0) T.cl_F T.m_F_part_of GP hr2 T.b_F_part_of .nil pass0 (pa_cons (pe_lst (pa_cons (pv 1) pa_nil)) (pa_cons (pe_lst pa_nil) pa_nil))))
      (pss_cons (ps_dput hu (pe_fld (pv 0) rfl) (pv 1) (pv 3) (by rfl))
      (pss_cons (ps_aug (i := 7) nd rfl (by first | exact Or.inl rfl | exact Or.inr rfl)
          (pe_lc (own := [("one", 8)]) (g := gName 8) (te := tVar 8) rfl nd (pi_list (pe_meth (pv 0) T.cl_F T.m_F_part_of GP hr2 T.b_F_part_of .nil pass0 (pa_cons (pe_lst (pa_cons (pv 1) pa_nil)) (pa_cons (pe_lst pa_nil) pa_nil))))
            (blkOk_by (N := ["self", "asker", "rooms", "fresh", "before", "old", "count", "part", "one"]) (sc := defScope s_F_wish) (by decide +kernel))
            (fun _ _ _ _ _ => pg_name (i := 8) nd rfl (Or.inl rfl)) (fun _ _ _ _ _ => pts_one (pt_cmpR (r := rIn K true) op_notIn_seq (pv 8) (pv 7) rfl)) (fun _ _ _ _ _ => pv 8)) iop_ext)
      (pss_cons (ps_expr (pe_meth (pv 0) T.cl_F T.m_F_ask_anew GA hr T.b_F_ask_anew .nil pass0 (pa_cons (pe_callB cr_sortedS (by rfl) T.z_sorted bt_sorted (pa_cons (pv 7) pa_nil)) pa_nil)))
      (pss_one (ps_ret (pe_meth (pv 0) T.cl_F T.m_F_told GT hr1 T.b_F_told .nil pass0 (pa_cons (pv 4) pa_nil))))))))))), ?_⟩
    obtain ⟨n, hp⟩ := M.ins
    obtain ⟨lp, hl0, hlp⟩ := M.lw
    obtain ⟨o1, d1, s1⟩ := dget_in (k := x) (.inl hl0)
    have cA : f.As.length ≤ 1000 := Nat.le_trans ok.cA (by decide)
    dsimp only [tNext, tSeq]
    refine ⟨_, rfl, _, rfl, F.p, a.cF, F.dx, _, _, rfl, hp, T.cl_F, T.n_F_lists, ff_lists, F.dl, o1, rfl, d1, _, rfl, ?_⟩
    rw [s1, decide_eq_true hx]
    refine iteF ?_
    -- fresh, before, old = (check_words(rooms), dict(self.held), self.lists[asker])
    refine ⟨_, rfl, t, l, rfl, ht, hl.1, hl.2, fun H0 g0 => ?_⟩
    have M0 := M.gr g0
    obtain ⟨n0, hp0⟩ := M0.ins
    refine ⟨_, rfl, F.p, a.cF, F.dx, _, _, rfl, hp0, T.cl_F, T.n_F_held, ff_held, F.dh, _, rfl, .inl M0.h, fun b nb => ?_⟩
    have g1 : Gr a H (upd H0 b (.dK (dkF f.As fun k => optS (f.hd k)))) := g0.trans (Gx.new nb)
    have hb : upd H0 b (.dK (dkF f.As fun k => optS (f.hd k))) b = some (.dK (dkF f.As fun k => optS (f.hd k))) := upd_same
    have M1 := M0.gr (Gx.new (o := .dK (dkF f.As fun k => optS (f.hd k))) nb)
    have ht1 := ht.gr g1
    have bS : b ∉ F.S := M0.out nb
    generalize upd H0 b _ = H1 at *
    obtain ⟨n1, hp1⟩ := M1.ins
    obtain ⟨lp1, hl1, hlp1⟩ := M1.lw
    refine ⟨_, rfl, F.p, a.cF, F.dx, _, _, rfl, hp1, T.cl_F, T.n_F_lists, ff_lists, _, rfl, F.dl, _, rfl, dget_w (.inl hl1) hx, _, _, _, rfl, ?_⟩
    -- count = self.next[asker]
    refine ⟨_, rfl, F.p, a.cF, F.dx, _, _, rfl, hp1, T.cl_F, T.n_F_next, ff_next, _, rfl, F.dn, _, rfl, dget_w (.inl M1.n) hx, ?_⟩
    have eA := Fr.tell_As (f := f) (l := l) hx
    have ok2 : (f.tell x l).Ok := ok.tell hl hs (ok.sA x hx) (by rw [eA]; exact ok.cA)
    have oS : ∀ z, z ∈ f.ls x → PyData.strOk z = true := ok.sL x
    dsimp only [gName]
    refine seq_via (t := tIfS _ _ _) (fun σ' H' => σ' = [some (.ref F.p), some (.str x), some (.ref t), some (.ref t), some (.ref b), some (.ref (lp1 x)), some (.int (f.nx x : Nat)), none, none] ∧ Gr a H1 H') (fun σ' H' hC => ?_) (fun fin => ?_)
    · obtain ⟨rfl, g2⟩ := hC
      have M2 := M1.gr g2
      have ht2 := ht1.gr g2
      have hb2 := Gr.dk g2 hb
      obtain ⟨n2, hp2⟩ := M2.ins
      -- part = self.part_of([asker], [])
      refine ⟨_, rfl, F.p, F.dx, _, rfl, hp2, ff_un (by decide +kernel), ?_⟩
      refine ⟨_, rfl, by show 1 ≤ sizeLine; decide, fun e1 ne1 => ⟨Nat.zero_le _, fun e2 ne2 => ?_⟩⟩
      have g3 : Gr a H' (upd (upd H' e1 (.lst [V.str x])) e2 (.lst [])) := (Gx.new ne1).trans (Gx.new ne2)
      have he1 : upd (upd H' e1 (.lst [V.str x])) e2 (.lst []) e1 = some (.lst (strV [x])) := new_keep upd_same ne2
      have he2 : upd (upd H' e1 (.lst [V.str x])) e2 (.lst []) e2 = some (.lst (strV [])) := upd_same
      generalize upd (upd H' e1 _) e2 _ = H3 at *
      have M3 := M2.gr g3
      refine ⟨F, _, e1, e2, [x], [], rfl, M3, ok, he1, he2, by simp, List.nodup_nil, by simp, Nat.zero_le _, fun D1 H4 zs I J g4 nD1 hD1 hzs hzn hcl hxs hys => ?_⟩
      have M4 := M3.gr g4
      obtain ⟨n4, hp4⟩ := M4.ins
      obtain ⟨lp4, hl4, hlp4⟩ := M4.lw
      have ht4 := (ht2.gr g3).gr g4
      have hD1S := M4.lstOut hD1
      -- self.lists[asker] = fresh
      refine ⟨_, rfl, _, rfl, F.p, a.cF, F.dx, _, _, rfl, hp4, T.cl_F, T.n_F_lists, ff_lists, _, rfl, F.dl, _, rfl, dput_a hl4 cA, ?_⟩
      obtain ⟨M5, g5⟩ := M4.setL hx ht4 hl4 hlp4
      generalize upd H4 F.dl _ = H5 at *
      have hD15 : H5 D1 = some (.lst (strV zs)) := g5.lst hD1 hD1S
      obtain ⟨n5, hp5⟩ := M5.ins
      -- part += [one for one in self.part_of([asker], []) if one not in part]
      refine ⟨_, rfl, ?_⟩
      refine ⟨_, rfl, F.p, F.dx, _, rfl, hp5, ff_un (by decide +kernel), ?_⟩
      refine ⟨_, rfl, by show 1 ≤ sizeLine; decide, fun e3 ne3 => ⟨Nat.zero_le _, fun e4 ne4 => ?_⟩⟩
      have g6 : Gr a H5 (upd (upd H5 e3 (.lst [V.str x])) e4 (.lst [])) := (Gx.new ne3).trans (Gx.new ne4)
      have he3 : upd (upd H5 e3 (.lst [V.str x])) e4 (.lst []) e3 = some (.lst (strV [x])) := new_keep upd_same ne4
      have he4 : upd (upd H5 e3 (.lst [V.str x])) e4 (.lst []) e4 = some (.lst (strV [])) := upd_same
      generalize upd (upd H5 e3 _) e4 _ = H6 at *
      have M6 := M5.gr g6
      refine ⟨F, _, e3, e4, [x], [], rfl, M6, ok2, he3, he4, by simp, List.nodup_nil, by simp, Nat.zero_le _, fun D2 H7 ys I' J' g7 nD2 hD2 hys2 hyn hcl' hxs' hys' => ?_⟩
      have M7 := M6.gr g7
      have lz := part_len ok hzs hzn
      have ly := part_len ok2 hys2 hyn
      refine ⟨D2, rfl, ⟨_, SqL.of hD2⟩, fun D nD => ?_⟩
      refine more_walk (K := K) (a := a) (i := 7) (j := 8) (D1 := D1) (zs := zs) (ys := ys) (fun _ => rfl) (fun _ => rfl) (fun _ => rfl) (by omega) nD (Gr.lst (g6.trans g7) hD15) hD2 fun H8 g8 hD => ?_
      have hD18 := Gr.lst (g6.trans (g7.trans g8)) hD15
      have lf : (ys.filter fun z => !decide (z ∈ zs)).length ≤ 10 := Nat.le_trans (List.length_filter_le _ _) ly
      refine ⟨D1, D, _, _, rfl, rfl, hD18, hD, Nat.le_of_lt (sz1000 (by rw [strV_len, strV_len]; omega)), ?_⟩
      have g9 : Gx a [D1] H8 (upd H8 D1 (.lst (strV zs ++ strV (ys.filter fun z => !decide (z ∈ zs))))) := Gx.set hD18 rfl (by simp)
      have hD9 : upd H8 D1 (.lst (strV zs ++ strV (ys.filter fun z => !decide (z ∈ zs)))) D1 = some (.lst (strV (zs ++ ys.filter fun z => !decide (z ∈ zs)))) := by rw [upd_same]; simp [strV]
      have M9 : FairAt a (upd H8 D1 (.lst (strV zs ++ strV (ys.filter fun z => !decide (z ∈ zs))))) F (f.tell x l) := (M7.gr g8).gx1 g9 hD1S fun t xs ⟨o, e, _⟩ z => by rw [z, hD18] at e; cases e
      have hb9 : upd H8 D1 (.lst (strV zs ++ strV (ys.filter fun z => !decide (z ∈ zs)))) b = some (.dK (dkF f.As fun k => optS (f.hd k))) :=
        upd_dk (Gr.dk (g6.trans (g7.trans g8)) (g5.dk (Gr.dk (g3.trans g4) hb2) bS)) hD18
      have g29 : Gx a F.S H' (upd H8 D1 (.lst (strV zs ++ strV (ys.filter fun z => !decide (z ∈ zs))))) :=
        Gx.keepNew ((g3.trans g4).to.trans (g5.trans (g6.trans (g7.trans g8)).to)) hD18 rfl (g3.free _ nD1)
      generalize upd H8 D1 _ = H9 at *
      obtain ⟨n9, hp9⟩ := M9.ins
      -- self.ask_anew(sorted(part))
      refine ⟨_, rfl, F.p, F.dx, _, rfl, hp9, ff_un (by decide +kernel), _, rfl, D1, _, rfl, SqL.of hD9, by rw [List.length_append]; omega, fun ps p9 hperm hsort np9 => ?_⟩
      have g10 : Gr a H9 (upd H9 p9 (.lst (ps.map V.str))) := Gx.new np9
      have hps : ∀ z, z ∈ ps ↔ z ∈ zs ∨ z ∈ ys := fun z => by
        rw [hperm.mem_iff, List.mem_append, List.mem_filter]
        by_cases h : z ∈ zs <;> simp [h]
      obtain ⟨ts, Tm, I9⟩ := wish_inv ok Fi ok2 hx hzs hcl (hxs x (by simp)) hys2 hcl' hps
      refine ⟨F, _, p9, ps, ts, Tm, rfl, M9.gr g10, ok2, upd_same, fun z hz => ?_, I9, fun v6 H11 nx11 hd11 M11 ok11 F11 g11 => ?_⟩
      · rcases (hps z).mp hz with h | h
        · exact mem_addS.mpr (.inl ((hzs z).mp h).1)
        · exact ((hys2 z).mp h).1
      obtain ⟨n11, hp11⟩ := M11.ins
      have hb11 : H11 b = some (.dK (dkF f.As fun k => optS (f.hd k))) := g11.dk (Gr.dk g10 hb9) bS
      refine ⟨_, rfl, F.p, F.dx, _, rfl, hp11, ff_un (by decide +kernel), _, rfl, F, _, b, f.As, f.hd, rfl, M11, ok11, hb11, ok.cA, fun v7 H12 g12 => ?_⟩
      exact k v7 H12 nx11 hd11 (M11.gr g12) ok11 F11 (g1.to.trans (g2.to.trans (g29.trans (g10.to.trans (g11.trans g12.to)))))
    · dsimp only [tIfS]
      refine ⟨_, rfl, F.p, a.cF, F.dx, _, _, rfl, hp1, T.cl_F, T.n_F_held, ff_held, _, rfl, F.dh, _, rfl, dget_w (.inl M1.h) hx, rfl, _, rfl, ?_⟩
      cases hh : f.hd x with
      | none =>
        refine iteF ?_
        exact fin _ _ ⟨rfl, Gx.refl⟩
      | some q =>
        refine iteT ?_
        refine ⟨_, rfl, _, rfl, _, rfl, slice_str (a := a) ht1.sq fun q1 H2 g2 hq1 => ?_⟩
        refine ⟨_, rfl, _, rfl, _, rfl, slice_str (a := a) ((hlp1 x hx).gr g2).sq fun q2 H3 g3 hq2 => ?_⟩
        refine eq_tups (Gx.sqT g3 hq1) hq2 (fun z hz => hs z (List.mem_of_mem_take hz)) (fun z hz => oS z (List.mem_of_mem_take hz)) ⟨_, rfl, ?_⟩
        have g23 := g2.trans g3
        by_cases he : l.take (f.nx x) = (f.ls x).take (f.nx x)
        · rw [decide_eq_true he]
          refine iteT ?_
          have M3 := M1.gr g23
          obtain ⟨n3, hp3⟩ := M3.ins
          obtain ⟨lp3, hl3, hlp3⟩ := M3.lw
          refine ⟨_, rfl, _, rfl, F.p, a.cF, F.dx, _, _, rfl, hp3, T.cl_F, T.n_F_lists, ff_lists, _, rfl, F.dl, _, rfl, dput_a hl3 cA, ?_⟩
          obtain ⟨M4, g4⟩ := M3.setL hx (ht1.gr g23) hl3 hlp3
          refine ⟨Nat.zero_le _, fun T5 nT5 => ?_⟩
          have g5 : Gr a (upd H3 F.dl (.dK (dkF (addS f.As x) (DA.setF (fun k => V.ref (lp3 k)) x (V.ref t))))) (upd (upd H3 F.dl (.dK (dkF (addS f.As x) (DA.setF (fun k => V.ref (lp3 k)) x (V.ref t))))) T5 (.tup [])) := Gx.new nT5
          exact k _ _ f.nx f.hd (M4.gr g5) ok2 (wish_same ok Fi (by rw [hh]; simp) he) (g1.to.trans (g23.to.trans (g4.trans g5.to)))
        · rw [decide_eq_false he]
          refine iteF ?_
          exact fin _ _ ⟨rfl, g23⟩
end
end K6

/-! ## KFairB -/
set_option maxRecDepth 100000
set_option maxHeartbeats 4000000
/-! Fair.match, names, as_market. -/
namespace K6
open PySem PySem.Spec PyProof.Rows L2
def spFMatch (a : Ad) : Sp := fun vs H Q _ => ∃ (F : FAd) (f : Fr), vs = [.ref F.p] ∧ FairAt a H F f ∧ f.Ok ∧
  ∀ t H' (ys : List Str) (ps : List Addr), Gr a H H' → PT H' t (ps.map V.ref) → Paired (fun p y => H' p = some (.tup [.str y, optS (f.hd y)])) ps ys → ys.Perm f.As → Q (.ref t) H'
def spFNames (a : Ad) : Sp := fun vs H Q _ => ∃ (F : FAd) (f : Fr), vs = [.ref F.p] ∧ FairAt a H F f ∧ f.Ok ∧
  ∀ t H' (pa pr : Addr) (ya yr : List Str), Gr a H H' → H' t = some (.tup [.ref pa, .ref pr]) → PT H' pa (strV ya) → PT H' pr (strV yr) → ya.Perm f.As → yr.Perm f.Rs → Q (.ref t) H'
def spFMarket (a : Ad) : Sp := fun vs H Q _ => ∃ (F : FAd) (f : Fr), vs = [.ref F.p] ∧ FairAt a H F f ∧ f.Ok ∧ Tb a H ∧
  ∀ m H' (L O : List (List Nat)) (S : List Nat), Gr a H H' → MktAt a H' m L O S → WF L O S → L.length = f.As.length → Q (.ref m) H'
def rTupIx (K : PySem.W.Frag) : V → List V → Hp → VK → Prop := fun x xs H Q => ∃ p, ∃ ys : List Str, ∃ z j, x = .ref p ∧ xs = [.str z] ∧ SqT K H p (ys.map V.str) ∧ ys[j]? = some z ∧ (∀ m, m < j → ys[m]? ≠ some z) ∧ Q (.int (j : Nat)) H
theorem mt_tix {X : Cx} : MtR X "tuple.index" (rTupIx X.K) := mt_tup_index
/-- the places of the words of l in ys -/
def idxs (l ys : List Str) : List Nat := (l.filter fun z => decide (z ∈ ys)).map fun z => ys.idxOf z
theorem idx_first {ys : List Str} {z : Str} (h : z ∈ ys) : ys[ys.idxOf z]? = some z ∧ ∀ m, m < ys.idxOf z → ys[m]? ≠ some z := by
  induction ys with
  | nil => cases h
  | cons y ys ih =>
    by_cases e : y = z
    · subst e
      rw [List.idxOf_cons_self]
      exact ⟨rfl, fun m hm => by omega⟩
    · obtain ⟨h1, h2⟩ := ih ((List.mem_cons.mp h).resolve_left (Ne.symm e))
      rw [idx_ne e]
      refine ⟨by simpa using h1, fun m hm => ?_⟩
      cases m with
      | zero => simpa using e
      | succ m => simpa using h2 m (by omega)
theorem idxs_ok {l ys : List Str} (h : okL l) : (idxs l ys).Nodup ∧ (∀ n, n ∈ idxs l ys → n < ys.length) ∧ (idxs l ys).length ≤ 100 := by
  refine ⟨?_, fun n hn => ?_, ?_⟩
  · unfold idxs
    have nd : (l.filter fun z => decide (z ∈ ys)).Nodup := h.1.filter _
    rw [List.nodup_iff_pairwise_ne, List.pairwise_map]
    refine List.Pairwise.imp_of_mem (fun {x y} hx hy hne e => ?_) nd
    have hx' : x ∈ ys := by have := (List.mem_filter.mp hx).2; simpa using this
    exact hne (DA.idx_inj hx' e)
  · obtain ⟨z, hz, rfl⟩ := List.mem_map.mp hn
    have hz' : z ∈ ys := by have := (List.mem_filter.mp hz).2; simpa using this
    exact DA.idx_lt hz'
  · unfold idxs
    rw [List.length_map]
    exact Nat.le_trans (List.length_filter_le _ _) h.2
theorem idxs_yes {l ys : List Str} {i : Nat} {z : Str} (h : l[i]? = some z) (hp : z ∈ ys) : idxs (l.take (i + 1)) ys = idxs (l.take i) ys ++ [ys.idxOf z] := by
  unfold idxs
  rw [filt_yes (p := fun z => decide (z ∈ ys)) h (decide_eq_true hp), List.map_append]; rfl
theorem idxs_no {l ys : List Str} {i : Nat} {z : Str} (h : l[i]? = some z) (hp : z ∉ ys) : idxs (l.take (i + 1)) ys = idxs (l.take i) ys := by
  unfold idxs
  rw [filt_no (p := fun z => decide (z ∈ ys)) h (decide_eq_false hp)]
/-- [ys.index(z) for z in l if z in ys] -/
theorem idx_walk {K : PySem.W.Frag} {a : Ad} {σ : L2.St} {i j : Nat} {H1 : Hp} {D tl ty : Addr} {Qd : Hp → Prop} {l ys : List Str}
    (hw : ∀ v : V, wipe ((wipe σ [j]).set j (some v)) [j] = wipe σ [j]) (hv : ∀ v : V, ((wipe σ [j]).set j (some v))[j]? = some (some v)) (hi : ∀ v : V, ((wipe σ [j]).set j (some v))[i]? = some (some (V.ref ty))) (hl : l.length ≤ 1000) (nD : H1 D = none)
    (h1 : PT H1 tl (strV l)) (h2 : PT H1 ty (strV ys))
    (k : ∀ H2, Gr a H1 H2 → H2 D = some (.lst (natV (idxs l ys))) → Qd H2) :
    ∃ W : Nat → Nat → Hp → Prop, (∃ m, W 0 m (upd H1 D (.lst []))) ∧ ∀ q m H, W q m H →
      ((Itt K tl).stop q H ∧ Qd H) ∨ ((Itt K tl).go q H ∧ ∃ Nx : Hp → Prop, (∀ H', Nx H' → ∃ m', m' < m ∧ W (q + 1) m' H') ∧ ∀ x H', (Itt K tl).yld q H x H' → gName j x (wipe σ [j]) H' fun σ2 H2 => wipe σ2 [j] = wipe σ [j] ∧ tTest (tOp (rIn K false) (tVar j) (tVar i)) σ2 H2 fun b H3 =>
        if b = true then tBMt (rTupIx K) (tVar i) (tCons (tVar j) tNil) σ2 H3 fun y H4 => ∃ acc, H4 D = some (.lst acc) ∧ acc.length < sizeLine ∧ Nx (upd H4 D (.lst (acc ++ [y]))) else Nx H3) := by
  refine lc_tup (K := K) (a := tl) (xs := strV l) (fun q H' => Gr a H1 H' ∧ H' D = some (.lst (natV (idxs (l.take q) ys)))) ⟨Gx.new nD, upd_same⟩ (fun i H' _ ⟨g, _⟩ => (h1.gr g).sq) ?_ ?_
  · rintro q x H' hx ⟨g, hD⟩
    obtain ⟨z, hz, rfl⟩ := strV_get hx
    refine ⟨hw _, ?_⟩
    refine ⟨_, hv _, _, hi _, ty, _, rfl, .inr (h2.gr g).sq, rfl, strV_flat _, _, rfl, ?_⟩
    rw [show (if false = true then !inV (V.str z) (strV ys) else inV (V.str z) (strV ys)) = inV (V.str z) (strV ys) from rfl, inV_str]
    by_cases hc : z ∈ ys
    · rw [decide_eq_true hc]
      refine iteT ?_
      obtain ⟨e1, e2⟩ := idx_first hc
      refine ⟨_, hi _, ⟨ty, _, rfl, h2.gr g⟩, _, hv _, ty, ys, z, ys.idxOf z, rfl, rfl, (h2.gr g).sq, e1, e2, _, hD, sz1000 ?_, Gx.app g nD hD rfl, ?_⟩
      · rw [natV_len]; unfold idxs; rw [List.length_map]
        exact Nat.le_trans (List.length_filter_le _ _) (Nat.le_trans (List.length_take_le' ..) hl)
      · rw [upd_same, natV_snoc, idxs_yes hz hc]
    · rw [decide_eq_false hc]
      refine iteF ⟨g, ?_⟩
      rw [idxs_no hz hc]
      exact hD
  · rintro H' ⟨g, hD⟩
    rw [strV_len, List.take_length] at hD
    exact k H' g hD
theorem pairedMap {α β γ : Type} {F : α → γ → Prop} {g : β → γ} : ∀ {l : List α} {k : List β}, Paired (fun x y => F x (g y)) l k → Paired F l (k.map g)
  | _, _, .nil => .nil
  | _, _, .cons h t => .cons h (pairedMap t)
section
variable {P : Program} {w : World} {K : PySem.W.Frag} {mg : Str → Option Value} {base : Heap} {a : Ad}
theorem PT.new {H H' : Hp} {l : Addr} {ys : List V} (nl : H l = none) (h : ∃ o, H' = upd H l (.frz o (.tup ys))) : Gr a H H' := by
  obtain ⟨o, e⟩ := h
  rw [e]; exact Gx.new nl
theorem sc_F_names : FnScope ["self"] ["self"] (defScope s_F_names) := ⟨rfl, rfl, rfl, by decide +kernel, rfl, by decide +kernel, by decide +kernel⟩
theorem ok_F_names (T : Txt K mg base a) : FnOk P w K mg base CX0 1 a.f_F_names a.d_F_names ["self"] (spFNames a) := by
  refine T.F_F_names.ok sc_F_names (fun vs H Q E h => ?_) (fun cdv A outer s H vs Q E hr h => ?_)
  · obtain ⟨F, f, rfl, _⟩ := h
    rfl
  · obtain ⟨F, f, rfl, M, ok, k⟩ := h
    refine ⟨_, pss_one (ps_ret (pe_tup (pa_cons (pe_callTy call_tupleF (by rfl) T.z_tuple bt_tuple (pa_cons (pe_callB (call_sortedD rfl) (by rfl) T.z_sorted bt_sorted (pa_cons (pe_fld (pv 0) rfl) pa_nil)) pa_nil))
        (pa_cons (pe_callTy call_tupleF (by rfl) T.z_tuple bt_tuple (pa_cons (pe_callB (call_sortedD rfl) (by rfl) T.z_sorted bt_sorted (pa_cons (pe_fld (pv 0) rfl) pa_nil)) pa_nil)) pa_nil)))), ?_⟩
    obtain ⟨n, hp⟩ := M.ins
    obtain ⟨lp, hl, hlp⟩ := M.l
    refine ⟨_, rfl, F.p, a.cF, F.dx, _, _, rfl, hp, T.cl_F, T.n_F_lists, ff_lists, F.dl, _, f.As, rfl, hl, dkF_keys, by have := ok.cA; omega, fun ya p1 hperm _ n1 => ?_⟩
    have g1 : Gr a H (upd H p1 (.lst (ya.map V.str))) := Gx.new n1
    refine ⟨p1, _, rfl, SqL.of upd_same, fun l1 H1 nl1 pt1 _ e1 => ?_⟩
    have g2 := g1.trans (PT.new nl1 e1)
    have M2 := M.gr g2
    obtain ⟨n2, hp2⟩ := M2.ins
    obtain ⟨rp, hr2, hrp⟩ := M2.o
    refine ⟨_, rfl, F.p, a.cF, F.dx, _, _, rfl, hp2, T.cl_F, T.n_F_orders, ff_orders, F.dr, _, f.Rs, rfl, hr2, dkF_keys, by have := ok.cR; omega, fun yr p3 hperm2 _ n3 => ?_⟩
    have g3 : Gr a H1 (upd H1 p3 (.lst (yr.map V.str))) := Gx.new n3
    refine ⟨p3, _, rfl, SqL.of upd_same, fun l2 H2 nl2 pt2 _ e2 => ?_⟩
    have g4 := g3.trans (PT.new nl2 e2)
    refine ⟨by show 2 ≤ sizeLine; decide, fun T5 n5 => ?_⟩
    have g5 : Gr a H2 (upd H2 T5 (.tup [V.ref l1, V.ref l2])) := Gx.new n5
    exact k T5 _ l1 l2 ya yr (g2.trans (g4.trans g5)) upd_same (pt1.gr (g4.trans g5)) (pt2.gr g5) hperm hperm2
theorem sc_F_match : FnScope ["self", "asker"] ["self"] (defScope s_F_match) := ⟨rfl, rfl, rfl, by decide +kernel, rfl, by decide +kernel, by decide +kernel⟩
theorem ok_F_match (T : Txt K mg base a) : FnOk P w K mg base CX0 1 a.f_F_match a.d_F_match ["self"] (spFMatch a) := by
  refine T.F_F_match.ok sc_F_match (fun vs H Q E h => ?_) (fun cdv A outer s H vs Q E hr h => ?_)
  · obtain ⟨F, f, rfl, _⟩ := h
    rfl
  · obtain ⟨F, f, rfl, M, ok, k⟩ := h
    have hu := hu_of hr
    have nd := sc_F_match.nd
    refine ⟨_, pss_one (ps_ret (pe_callTy call_tupleF (by rfl) T.z_tuple bt_tuple (pa_cons
        (pe_lc (own := [("asker", 1)]) (g := gName 1) (tt := tYes) (te := tTup (tCons (tVar 1) (tCons (tDGet (tFld K (tVar 0) "held") (tVar 1)) tNil))) rfl nd (pi_list (pe_callB (call_sortedD rfl) (by rfl) T.z_sorted bt_sorted (pa_cons (pe_fld (pv 0) rfl) pa_nil)))
          (blkOk_by (N := ["self", "asker"]) (sc := defScope s_F_match) (by decide +kernel))
          (fun _ _ _ _ _ => pg_name (i := 1) nd rfl (Or.inl rfl)) (fun _ _ _ _ _ => pts_nil) (fun _ _ _ _ _ => pe_tup (pa_cons (pv 1) (pa_cons (pe_dget hu (pe_fld (pv 0) rfl) (pv 1) (fun _ _ => rfl)) pa_nil)))) pa_nil))), ?_⟩
    obtain ⟨n, hp⟩ := M.ins
    obtain ⟨lp, hl, hlp⟩ := M.l
    refine ⟨_, rfl, F.p, a.cF, F.dx, _, _, rfl, hp, T.cl_F, T.n_F_lists, ff_lists, F.dl, _, f.As, rfl, hl, dkF_keys, by have := ok.cA; omega, fun ys p1 hperm _ n1 => ?_⟩
    have g1 : Gr a H (upd H p1 (.lst (ys.map V.str))) := Gx.new n1
    have e1 : upd H p1 (.lst (ys.map V.str)) p1 = some (.lst (strV ys)) := upd_same
    have lys : ys.length ≤ 10 := by rw [hperm.length_eq]; exact ok.cA
    generalize upd H p1 _ = H1 at *
    refine ⟨p1, rfl, ⟨_, SqL.of e1⟩, fun D nD => ?_⟩
    refine lc_list (K := K) (a := p1) (xs := strV ys) (fun i H' => ∃ ps : List Addr, Gr a H1 H' ∧ H' D = some (.lst (ps.map V.ref)) ∧ Paired (fun p y => H' p = some (.tup [.str y, optS (f.hd y)])) ps (ys.take i) ∧ ps.length = i) ⟨[], Gx.new nD, upd_same, .nil, rfl⟩ (fun i H' _ ⟨_, g, _⟩ => SqL.of (Gr.lst g e1)) ?_ ?_
    · rintro i x H' hx ⟨ps, g, hD, hps, hpl⟩
      obtain ⟨z, hz, rfl⟩ := strV_get hx
      have hi : i < ys.length := (List.getElem?_eq_some_iff.mp hz).1
      have hzA : z ∈ f.As := hperm.mem_iff.mp (List.mem_of_getElem? hz)
      have M' := M.gr (g1.trans g)
      obtain ⟨n', hp'⟩ := M'.ins
      refine ⟨rfl, tYes_ok ?_⟩
      refine iteT ?_
      refine ⟨_, rfl, _, rfl, F.p, a.cF, F.dx, _, _, rfl, hp', T.cl_F, T.n_F_held, ff_held, _, rfl, F.dh, _, rfl, dget_w (.inl M'.h) hzA, by show 2 ≤ sizeLine; decide, fun T4 n4 => ?_⟩
      have hD4 := new_keep (o := .tup [V.str z, optS (f.hd z)]) hD n4
      refine ⟨_, hD4, sz1000 (by rw [List.length_map]; omega), ps ++ [T4], Gx.app (g.trans (Gx.new n4)) nD hD4 rfl, by rw [upd_same, List.map_append]; rfl, ?_, by rw [List.length_append, hpl]; rfl⟩
      rw [take_snoc hz]
      refine paired_snoc ?_ (Paired.mapP hps fun p y h => ?_)
      · exact upd_tup upd_same hD4
      · exact upd_tup (new_keep h n4) hD4
    · rintro H' ⟨ps, g, hD, hps, hpl⟩
      rw [strV_len, List.take_length] at hps
      refine ⟨D, _, rfl, SqL.of hD, fun t H2 nt pt _ e2 => ?_⟩
      have g2 : Gr a H' H2 := PT.new nt e2
      exact k t H2 ys ps ((g1.trans g).trans g2) pt (Paired.mapP hps fun p y h => Gr.tup g2 h) hperm
theorem sc_F_market : FnScope ["self", "askers", "rooms", "lists", "orders", "asker", "room"] ["self"] (defScope s_F_as_market) := ⟨rfl, rfl, rfl, by decide +kernel, rfl, by decide +kernel, by decide +kernel⟩
theorem ok_F_market (T : Txt K mg base a) : FnOk P w K mg base CX0 5 a.f_F_as_market a.d_F_as_market ["self"] (spFMarket a) := by
  have GN : FnOk P w K mg base CX0 1 a.f_F_names a.d_F_names ["self"] (spFNames a) := ok_F_names T
  have GI : FnOk P w K mg base CX0 3 a.f_M_init a.d_M_init ["self", "lists", "orders", "seats"] (spMInit a) := ok_M_init T
  refine T.F_F_as_market.ok sc_F_market (fun vs H Q E h => ?_) (fun cdv A outer s H vs Q E hr h => ?_)
  · obtain ⟨F, f, rfl, _⟩ := h
    rfl
  · obtain ⟨F, f, rfl, M, ok, tb, k⟩ := h
    have hu := hu_of hr
    have nd := sc_F_market.nd
    have hr1 : Room 1 _ := hr.mono (by decide)
    refine ⟨_, pss_cons (ps_asg (pe_meth0 (pv 0) T.cl_F T.m_F_names GN hr1 T.b_F_names .nil pass0) (pg_tup rfl (pgs_cons (pg_name (i := 1) nd rfl (by first | exact Or.inl rfl | exact Or.inr rfl)) (pgs_cons (pg_name (i := 2) nd rfl (by first | exact Or.inl rfl | exact Or.inr rfl)) pgs_nil))))
      (pss_cons (ps_setLc (i := 3) (own := [("asker", 5)]) (g := gName 5) (tt := tYes) (te := tLc (iTup K (tDGet (tFld K (tVar 0) "lists") (tVar 5))) (gName 6) (tTest (tOp (rIn K false) (tVar 6) (tVar 2))) (tBMt (rTupIx K) (tVar 2) (tCons (tVar 6) tNil)) [6]) rfl nd rfl rfl (sw_true rfl rfl rfl (by decide +kernel)) (pi_tup (pv 1))
          (blkOk_by (N := ["self", "askers", "rooms", "lists", "orders", "asker", "room"]) (sc := defScope s_F_as_market) (by decide +kernel))
          (fun _ _ _ _ _ => pg_name (i := 5) nd rfl (Or.inl rfl)) (fun _ _ _ _ _ => pts_nil)
          (fun _ _ _ _ _ => pe_lc (own := [("room", 6)]) (g := gName 6) rfl nd (pi_tup (pe_dget hu (pe_fld (pv 0) rfl) (pv 5) (fun _ _ => rfl)))
            (blkOk_by (N := ["self", "askers", "rooms", "lists", "orders", "asker", "room"]) (sc := { kind := .function, names := [(".0", .local), ("asker", .local), ("rooms", .cell), ("self", .cell)], isGenerator := false, isCoroutine := false }) (by decide +kernel))
            (fun _ _ _ _ _ => pg_name (i := 6) nd rfl (Or.inl rfl)) (fun _ _ _ _ _ => pts_one (pt_cmpR (r := rIn K false) op_in_seq (pv 6) (pv 2) rfl))
            (fun _ _ _ _ _ => pe_bmT (r := rTupIx K) PySem.F.slot_tuple_index PySem.F.type_tuple_index mt_tix (pv 2) (pa_cons (pv 6) pa_nil))))
      (pss_cons (ps_setLc (i := 4) (own := [("room", 6)]) (g := gName 6) (tt := tYes) (te := tLc (iTup K (tDGet (tFld K (tVar 0) "orders") (tVar 6))) (gName 5) (tTest (tOp (rIn K false) (tVar 5) (tVar 1))) (tBMt (rTupIx K) (tVar 1) (tCons (tVar 5) tNil)) [5]) rfl nd rfl rfl (sw_true rfl rfl rfl (by decide +kernel)) (pi_tup (pv 2))
          (blkOk_by (N := ["self", "askers", "rooms", "lists", "orders", "asker", "room"]) (sc := defScope s_F_as_market) (by decide +kernel))
          (fun _ _ _ _ _ => pg_name (i := 6) nd rfl (Or.inl rfl)) (fun _ _ _ _ _ => pts_nil)
          (fun _ _ _ _ _ => pe_lc (own := [("asker", 5)]) (g := gName 5) rfl nd (pi_tup (pe_dget hu (pe_fld (pv 0) rfl) (pv 6) (fun _ _ => rfl)))
            (blkOk_by (N := ["self", "askers", "rooms", "lists", "orders", "asker", "room"]) (sc := { kind := .function, names := [(".0", .local), ("room", .local), ("askers", .cell), ("self", .cell)], isGenerator := false, isCoroutine := false }) (by decide +kernel))
            (fun _ _ _ _ _ => pg_name (i := 5) nd rfl (Or.inl rfl)) (fun _ _ _ _ _ => pts_one (pt_cmpR (r := rIn K false) op_in_seq (pv 5) (pv 1) rfl))
            (fun _ _ _ _ _ => pe_bmT (r := rTupIx K) PySem.F.slot_tuple_index PySem.F.type_tuple_index mt_tix (pv 1) (pa_cons (pv 5) pa_nil))))
      (pss_one (ps_ret (pe_make T.mk_M GI hr (by rfl) T.gc_M T.b_M_init .nil pass0 (pa_cons (pv 3) (pa_cons (pv 4) (pa_cons
          (pe_lc (own := [("room", 6)]) (g := gName 6) (tt := tYes) (te := tDGet (tFld K (tVar 0) "seats") (tVar 6)) rfl nd (pi_tup (pv 2)) (blkOk_by (N := ["self", "askers", "rooms", "lists", "orders", "asker", "room"]) (sc := defScope s_F_as_market) (by decide +kernel))
            (fun _ _ _ _ _ => pg_name (i := 6) nd rfl (Or.inl rfl)) (fun _ _ _ _ _ => pts_nil) (fun _ _ _ _ _ => pe_dget hu (pe_fld (pv 0) rfl) (pv 6) (fun _ _ => rfl))) pa_nil)))))))), ?_⟩
    obtain ⟨n, hp⟩ := M.ins
    dsimp only [tNext, tSeq, tAsg]
    refine ⟨_, rfl, F.p, F.dx, _, rfl, hp, ff_un (by decide +kernel), F, f, rfl, M, ok, fun t H1 pa pr ya yr g1 ht hpa hpr pA pR => ?_⟩
    refine ⟨t, _, rfl, SqT.of ht, rfl, _, _, rfl, _, _, rfl, rfl, ?_⟩
    have lya : ya.length ≤ 10 := by rw [pA.length_eq]; exact ok.cA
    have lyr : yr.length ≤ 2 := by rw [pR.length_eq]; exact ok.cR
    -- lists
    refine ⟨_, rfl, pa, rfl, ⟨_, hpa.sq⟩, fun D1 nD1 => ?_⟩
    refine lc_tup (K := K) (a := pa) (xs := strV ya) (fun i H' => ∃ qs : List Addr, Gr a H1 H' ∧ H' D1 = some (.lst (qs.map V.ref)) ∧ Paired (fun q y => q ≠ D1 ∧ H' q = some (.lst (natV (idxs (f.ls y) yr)))) qs (ya.take i) ∧ qs.length = i) ⟨[], Gx.new nD1, upd_same, .nil, rfl⟩ (fun i H' _ ⟨_, g, _⟩ => (hpa.gr g).sq) ?_ ?_
    · rintro i x H' hx ⟨qs, g, hD, hqs, hql⟩
      obtain ⟨z, hz, rfl⟩ := strV_get hx
      have hi : i < ya.length := (List.getElem?_eq_some_iff.mp hz).1
      have hzA : z ∈ f.As := pA.mem_iff.mp (List.mem_of_getElem? hz)
      have M' := M.gr (g1.trans g)
      obtain ⟨n', hp'⟩ := M'.ins
      obtain ⟨lp', hl', hlp'⟩ := M'.l
      refine ⟨rfl, tYes_ok ?_⟩
      refine iteT ?_
      refine ⟨_, rfl, F.p, a.cF, F.dx, _, _, rfl, hp', T.cl_F, T.n_F_lists, ff_lists, _, rfl, F.dl, _, rfl, dget_w hl' hzA, lp' z, rfl, ⟨_, (hlp' z hzA).sq⟩, fun D2 nD2 => ?_⟩
      have hne : D2 ≠ D1 := (ne_of_none hD nD2).symm
      refine idx_walk (K := K) (a := a) (i := 2) (j := 6) (tl := lp' z) (ty := pr) (l := f.ls z) (ys := yr) (fun _ => rfl) (fun _ => rfl) (fun _ => rfl) (by have := (ok.wl z).2; omega) nD2 (hlp' z hzA) (hpr.gr g) fun H2 g2 hD2 => ?_
      have hD' := Gr.lst g2 hD
      refine ⟨_, hD', sz1000 (by rw [List.length_map]; omega), qs ++ [D2], Gx.app (g.trans g2) nD1 hD' rfl, by rw [upd_same, List.map_append]; rfl, ?_, by rw [List.length_append, hql]; rfl⟩
      rw [take_snoc hz]
      refine paired_snoc ?_ (Paired.mapP hqs fun q y h => ?_)
      · exact ⟨hne, (upd_ne hne).trans hD2⟩
      · exact ⟨h.1, (upd_ne h.1).trans (Gr.lst g2 h.2)⟩
    rintro H2 ⟨qs, g2, hD1, hqs, hql⟩
    rw [strV_len, List.take_length] at hqs
    dsimp only [gName]
    -- orders
    refine ⟨_, rfl, pr, rfl, ⟨_, (hpr.gr g2).sq⟩, fun D3 nD3 => ?_⟩
    refine lc_tup (K := K) (a := pr) (xs := strV yr) (fun i H' => ∃ qs : List Addr, Gr a H2 H' ∧ H' D3 = some (.lst (qs.map V.ref)) ∧ Paired (fun q y => q ≠ D3 ∧ H' q = some (.lst (natV (idxs (f.os y) ya)))) qs (yr.take i) ∧ qs.length = i) ⟨[], Gx.new nD3, upd_same, .nil, rfl⟩ (fun i H' _ ⟨_, g, _⟩ => (hpr.gr (g2.trans g)).sq) ?_ ?_
    · rintro i x H' hx ⟨qs', g, hD, hqs', hql'⟩
      obtain ⟨z, hz, rfl⟩ := strV_get hx
      have hi : i < yr.length := (List.getElem?_eq_some_iff.mp hz).1
      have hzR : z ∈ f.Rs := pR.mem_iff.mp (List.mem_of_getElem? hz)
      have M' := M.gr (g1.trans (g2.trans g))
      obtain ⟨n', hp'⟩ := M'.ins
      obtain ⟨lp', hl', hlp'⟩ := M'.o
      refine ⟨rfl, tYes_ok ?_⟩
      refine iteT ?_
      refine ⟨_, rfl, F.p, a.cF, F.dx, _, _, rfl, hp', T.cl_F, T.n_F_orders, ff_orders, _, rfl, F.dr, _, rfl, dget_w hl' hzR, lp' z, rfl, ⟨_, (hlp' z hzR).sq⟩, fun D4 nD4 => ?_⟩
      have hne : D4 ≠ D3 := (ne_of_none hD nD4).symm
      refine idx_walk (K := K) (a := a) (i := 1) (j := 5) (tl := lp' z) (ty := pa) (l := f.os z) (ys := ya) (fun _ => rfl) (fun _ => rfl) (fun _ => rfl) (by have := (ok.wo z).2; omega) nD4 (hlp' z hzR) (hpa.gr (g2.trans g)) fun H5 g5 hD5 => ?_
      have hD' := Gr.lst g5 hD
      refine ⟨_, hD', sz1000 (by rw [List.length_map]; omega), qs' ++ [D4], Gx.app (g.trans g5) nD3 hD' rfl, by rw [upd_same, List.map_append]; rfl, ?_, by rw [List.length_append, hql']; rfl⟩
      rw [take_snoc hz]
      refine paired_snoc ?_ (Paired.mapP hqs' fun q y h => ?_)
      · exact ⟨hne, (upd_ne hne).trans hD5⟩
      · exact ⟨h.1, (upd_ne h.1).trans (Gr.lst g5 h.2)⟩
    rintro H3 ⟨qs', g3, hD3, hqs', hql'⟩
    rw [strV_len, List.take_length] at hqs'
    -- Market(lists, orders, [self.seats[room] for room in rooms])
    have g13 := g1.trans (g2.trans g3)
    refine ⟨_, rfl, _, rfl, ?_⟩
    refine ⟨_, rfl, pr, rfl, ⟨_, (hpr.gr (g2.trans g3)).sq⟩, fun D6 nD6 => ?_⟩
    refine lc_tup (K := K) (a := pr) (xs := strV yr) (fun i H' => Gr a H3 H' ∧ H' D6 = some (.lst (natV ((yr.take i).map f.st)))) ⟨Gx.new nD6, upd_same⟩ (fun i H' _ ⟨g, _⟩ => (hpr.gr (g2.trans (g3.trans g))).sq) ?_ ?_
    · rintro i x H' hx ⟨g, hD⟩
      obtain ⟨z, hz, rfl⟩ := strV_get hx
      have hi : i < yr.length := (List.getElem?_eq_some_iff.mp hz).1
      have hzR : z ∈ f.Rs := pR.mem_iff.mp (List.mem_of_getElem? hz)
      have M' := M.gr (g13.trans g)
      obtain ⟨n', hp'⟩ := M'.ins
      refine ⟨rfl, tYes_ok ?_⟩
      refine iteT ?_
      refine ⟨_, rfl, F.p, a.cF, F.dx, _, _, rfl, hp', T.cl_F, T.n_F_seats, ff_seats, _, rfl, F.ds, _, rfl, dget_w (.inl M'.s) hzR, ?_⟩
      refine ⟨_, hD, sz1000 (by rw [natV_len, List.length_map]; exact Nat.le_trans (List.length_take_le' ..) (by omega)), Gx.app g nD6 hD rfl, ?_⟩
      rw [upd_same, natV_snoc, take_snoc hz, List.map_append]
      rfl
    rintro H4 ⟨g4, hD6⟩
    rw [strV_len, List.take_length] at hD6
    intro x dx nx ndx ne
    have g5 : Gr a H4 (upd (upd H4 dx (.own x)) x (.ins a.cM dx [])) := Gx.inst nx ndx ne
    have wf : WF (ya.map fun y => idxs (f.ls y) yr) (yr.map fun y => idxs (f.os y) ya) (yr.map f.st) := by
      refine ⟨by rw [List.length_map, List.length_map], fun l hl => ?_, fun o ho => ?_, by rw [List.length_map]; exact lya, by rw [List.length_map]; exact lyr⟩
      · obtain ⟨y, _, rfl⟩ := List.mem_map.mp hl
        rw [List.length_map]
        exact idxs_ok (ok.wl y)
      · obtain ⟨y, _, rfl⟩ := List.mem_map.mp ho
        rw [List.length_map]
        exact idxs_ok (ok.wo y)
    have g35 := g3.trans (g4.trans g5)
    refine ⟨x, dx, D1, D3, D6, qs, qs', _, _, _, rfl, upd_same, Gr.lst g35 hD1, ?_, Gr.lst (g4.trans g5) hD3, ?_, .inl (Gr.lst g5 hD6), wf, (g13.trans (g4.trans g5)).tb tb, fun H7 M7 g7 => ⟨rfl, ?_⟩⟩
    · exact pairedMap (Paired.mapP hqs fun q y h => .inl (Gr.lst g35 h.2))
    · exact pairedMap (Paired.mapP hqs' fun q y h => .inl (Gr.lst (g4.trans g5) h.2))
    · refine k x H7 _ _ _ (Gx.over (g13.trans (g4.trans g5)) g7 fun b hb => ?_) M7 wf (by rw [List.length_map]; exact pA.length_eq)
      rw [List.mem_singleton.mp hb]; exact (g13.trans g4).free _ nx
end
end K6

/-! ## KLaw1 -/
set_option maxRecDepth 100000
set_option maxHeartbeats 4000000
/-! The law's dice. -/
namespace K6
open PySem PySem.Spec PyProof.Rows L2
def DiceAt (H : Hp) (D : Addr) : Prop := ∃ d0 d1 d2 : Int, H D = some (.lst [.int d0, .int d1, .int d2])
theorem DiceAt.gx {a : Ad} {S : List Addr} {H H' : Hp} {D : Addr} (g : Gx a S H H') (h : DiceAt H D) (hD : D ∉ S) : DiceAt H' D := let ⟨x, y, z, e⟩ := h; ⟨x, y, z, g.lst e hD⟩
def spDice (a : Ad) : Sp := fun vs H Q _ => ∃ n : Int, vs = [.int n] ∧ ∀ D H', Gr a H H' → H D = none → DiceAt H' D → Q (.ref D) H'
def spRoll (a : Ad) : Sp := fun vs H Q _ => ∃ (D : Addr) (m : Nat), vs = [.ref D, .int (m : Nat)] ∧ DiceAt H D ∧ 0 < m ∧ m < 1000 ∧ ∀ (r : Nat) H', r < m → DiceAt H' D → Gx a [D] H H' → Q (.int (r : Nat)) H'
theorem emod_nat (i : Int) {m : Nat} (h : 0 < m) : ∃ r : Nat, i % (m : Int) = (r : Nat) ∧ r < m := by
  have h1 : 0 ≤ i % (m : Int) := Int.emod_nonneg _ (by omega)
  have h2 : i % (m : Int) < (m : Int) := Int.emod_lt_of_pos _ (by omega)
  exact ⟨(i % (m : Int)).toNat, by omega, by omega⟩
theorem tIfS_via {c : TT} {t u : TS} {D : Ends} {σ : L2.St} {H : Hp} (b : Bool) (hc : ∀ Q : Bool → Hp → Prop, Q b H → c σ H Q) (h : if b = true then t D σ H else u D σ H) : tIfS c t u D σ H := hc _ h
section
variable {P : Program} {w : World} {K : PySem.W.Frag} {mg : Str → Option Value} {base : Heap} {a : Ad}
theorem sc_g_dice : FnScope ["_law_cell"] ["_law_cell"] (defScope s_g_law_dice) := ⟨rfl, rfl, rfl, by decide +kernel, rfl, by decide +kernel, by decide +kernel⟩
theorem ok_dice (T : Txt K mg base a) : FnOk P w K mg base CX0 1 a.f_g_law_dice a.d_g_law_dice ["_law_cell"] (spDice a) := by
  refine T.F_g_law_dice.ok sc_g_dice (fun vs H Q E h => ?_) (fun cdv A outer s H vs Q E hr h => ?_)
  · obtain ⟨n, rfl, _⟩ := h
    rfl
  · obtain ⟨n, rfl, k⟩ := h
    refine ⟨_, pss_cons (ps_if (pt_chain op_lt op_lt (pe_op op_sub pe_int pe_int) (pv 0) pe_int)
        (pss_one (ps_ret (pe_lst (pa_cons (pe_callB call_abs (by rfl) T.z_abs bt_abs (pa_cons (pv 0) pa_nil)) (pa_cons pe_int (pa_cons pe_int pa_nil)))))) pss_nil)
      (pss_one (ps_ret (pe_lst (pa_cons (pv 0) (pa_cons (pe_op op_add pe_int (pe_op op_mod (pe_callTy call_int1 (by rfl) T.z_int bt_int (pa_cons (pv 0) pa_nil)) pe_int)) (pa_cons (pe_callTy call_int1 (by rfl) T.z_int bt_int (pa_cons (pe_cmpR op_ge (pv 0) (pe_op op_pow pe_int pe_int) (nomark _)) pa_nil)) pa_nil)))))), ?_⟩
    have slow : ∀ H1, Gr a H H1 → tRet (tLst (tCons (tVar 0) (tCons (tOp (rI0 fun i j => V.int (i + j)) (tC (V.int 1)) (tOp (rI (fun x j => 0 < j) fun i j => V.int (i % j)) (tCB (fun xs H Q => (∃ i, xs = [V.int i] ∧ Q (V.int i) H) ∨ ∃ k, xs = [V.bl k] ∧ Q (V.int (if k = true then 1 else 0)) H) (tCons (tVar 0) tNil)) (tC (V.int 1009))))
        (tCons (tCB (fun xs H Q => (∃ i, xs = [V.int i] ∧ Q (V.int i) H) ∨ ∃ k, xs = [V.bl k] ∧ Q (V.int (if k = true then 1 else 0)) H) (tCons (tOp (rI0 fun i j => V.bl (decide (j ≤ i))) (tVar 0) (tOp (rI CPow fun i j => V.int (i ^ j.toNat)) (tC (V.int 10)) (tC (V.int 18)))) tNil)) tNil)))) { nx := fun x H' => Q V.non H', rt := Q } [some (V.int n)] H1 := by
      intro H1 g1
      refine ⟨_, rfl, _, rfl, .inl ⟨_, rfl, ?_⟩⟩
      refine ⟨_, _, rfl, rfl, (show (0 : Int) < 1009 by decide), _, _, rfl, rfl, _, rfl, _, _, rfl, rfl, ⟨by decide, by decide, by decide⟩, _, _, rfl, rfl, .inr ⟨_, rfl, by show 3 ≤ sizeLine; decide, fun D nD => ?_⟩⟩
      exact k D _ (g1.trans (Gx.new nD)) (g1.free _ nD) ⟨_, _, _, upd_same⟩
    refine ⟨_, _, rfl, rfl, _, rfl, _, _, rfl, rfl, _, rfl, ?_⟩
    cases h1 : decide ((0 : Int) - 10 < n) with
    | false =>
      refine iteF ⟨_, rfl, ?_⟩
      exact iteF (slow H Gx.refl)
    | true =>
      refine iteT ⟨_, _, rfl, rfl, _, rfl, ?_⟩
      cases h2 : decide (n < 10) with
      | false => exact iteF (slow H Gx.refl)
      | true =>
        refine iteT ?_
        refine ⟨_, rfl, _, rfl, by show 3 ≤ sizeLine; decide, fun D nD => ?_⟩
        exact k D _ (Gx.new nD) nD ⟨_, _, _, upd_same⟩
theorem sc_g_roll : FnScope ["_law_dice_here", "_law_many", "_law_found"] ["_law_dice_here", "_law_many"] (defScope s_g_law_roll) := ⟨rfl, rfl, rfl, by decide +kernel, rfl, by decide +kernel, by decide +kernel⟩
theorem ok_roll (T : Txt K mg base a) : FnOk P w K mg base CX0 1 a.f_g_law_roll a.d_g_law_roll ["_law_dice_here", "_law_many"] (spRoll a) := by
  refine T.F_g_law_roll.ok sc_g_roll (fun vs H Q E h => ?_) (fun cdv A outer s H vs Q E hr h => ?_)
  · obtain ⟨D, m, rfl, _⟩ := h
    rfl
  · obtain ⟨D, m, rfl, ⟨d0, d1, d2, hD⟩, hm, hm2, k⟩ := h
    have nd := sc_g_roll.nd
    refine ⟨_, pss_cons (ps_if (PW.pt (pw_or (pt_cmpR op_eq (pe_ix ix_list (pv 0) pe_int (fun _ _ => rfl)) pe_int (nomark _)) (pw_or1 (PW.pt (pw_and (pt_cmpR op_eq (pe_ix ix_list (pv 0) pe_int (fun _ _ => rfl)) pe_int (nomark _)) (pw_and1 (pt_cmpR op_gt (pe_ix ix_list (pv 0) pe_int (fun _ _ => rfl)) pe_int (nomark _))))))))
        (pss_cons (ps_set (i := 2) nd rfl (Or.inl rfl) (pe_op op_mod (pe_callTy call_int1 (by rfl) T.z_int bt_int (pa_cons (pe_ix ix_list (pv 0) pe_int (fun _ _ => rfl)) pa_nil)) (pv 1)))
        (pss_cons (ps_asg (pe_op op_fdiv (pe_ix ix_list (pv 0) pe_int (fun _ _ => rfl)) (pv 1)) (pg_sub (pv 0) pe_int set_list))
        (pss_one (ps_ret (pv 2))))) pss_nil)
      (pss_cons (ps_asg pe_int (pg_sub (pv 0) pe_int set_list))
      (pss_cons (ps_asg (pe_op op_mod (pe_callTy call_int1 (by rfl) T.z_int bt_int (pa_cons (pe_op op_add (pe_op op_add (pe_op op_mul (pe_ix ix_list (pv 0) pe_int (fun _ _ => rfl)) pe_int) (pe_op op_mul (pe_ix ix_list (pv 0) pe_int (fun _ _ => rfl)) pe_int)) pe_int) pa_nil)) pe_int) (pg_sub (pv 0) pe_int set_list))
      (pss_cons (ps_asg (pe_op op_add (pe_ix ix_list (pv 0) pe_int (fun _ _ => rfl)) pe_int) (pg_sub (pv 0) pe_int set_list))
      (pss_one (ps_ret (pe_op op_mod (pe_callTy call_int1 (by rfl) T.z_int bt_int (pa_cons (pe_op op_add (pe_op op_fdiv (pe_ix ix_list (pv 0) pe_int (fun _ _ => rfl)) pe_int) (pe_ix ix_list (pv 0) pe_int (fun _ _ => rfl))) pa_nil)) (pv 1))))))), ?_⟩
    dsimp only [tNext, tSeq, tAsg]
    have at_ : ∀ (x y z : Int), atI [V.int x, V.int y, V.int z] 0 = some (V.int x) ∧ atI [V.int x, V.int y, V.int z] 1 = some (V.int y) ∧ atI [V.int x, V.int y, V.int z] 2 = some (V.int z) := fun x y z => ⟨rfl, rfl, rfl⟩
    have small : ∀ x : Int, -(2 ^ 64) < (x : Int) ∧ x < 2 ^ 64 → True := fun _ _ => trivial
    refine seq_via (t := tIfS _ _ _) (fun σ' H' => σ' = [some (.ref D), some (.int (m : Nat)), none] ∧ H' = H) (fun σ' H' hC => ?_) (fun fin => ?_)
    · obtain ⟨rfl, rfl⟩ := hC
      -- dice[2] = 0
      refine ⟨_, rfl, D, _, _, 2, rfl, rfl, hD, rfl, ?_⟩
      have h1 : upd H' D (.lst (([V.int d0, V.int d1, V.int d2] : List V).set 2 (V.int 0))) D = some (.lst [V.int d0, V.int d1, V.int 0]) := upd_same
      have g1 : Gx a [D] H' (upd H' D (.lst (([V.int d0, V.int d1, V.int d2] : List V).set 2 (V.int 0)))) := Gx.set hD rfl (by simp)
      generalize upd H' D _ = H1 at *
      -- dice[0] = ..
      refine ⟨_, rfl, D, _, _, _, rfl, rfl, SqL.of h1, (at_ _ _ _).1, _, _, rfl, rfl, .inr ⟨by decide, by decide⟩, ?_⟩
      refine ⟨_, rfl, D, _, _, _, rfl, rfl, SqL.of h1, (at_ _ _ _).2.1, _, _, rfl, rfl, .inr ⟨by decide, by decide⟩, _, _, rfl, rfl, _, _, rfl, rfl, .inl ⟨_, rfl, _, _, rfl, rfl, (show (0 : Int) < 2147483647 by decide), ?_⟩⟩
      refine ⟨_, rfl, D, _, _, 0, rfl, rfl, h1, rfl, ?_⟩
      dsimp only
      generalize (d0 * 48271 + d1 * 69621 + 11) % 2147483647 = e0
      have h2 : upd H1 D (.lst (([V.int d0, V.int d1, V.int 0] : List V).set 0 (V.int e0))) D = some (.lst [V.int e0, V.int d1, V.int 0]) := upd_same
      have g2 : Gx a [D] H1 (upd H1 D (.lst (([V.int d0, V.int d1, V.int 0] : List V).set 0 (V.int e0)))) := Gx.set h1 rfl (by simp)
      generalize upd H1 D _ = H2 at *
      -- dice[1] = dice[1] + 1
      refine ⟨_, rfl, D, _, _, _, rfl, rfl, SqL.of h2, (at_ _ _ _).2.1, _, _, rfl, rfl, ?_⟩
      refine ⟨_, rfl, D, _, _, 1, rfl, rfl, h2, rfl, ?_⟩
      have h3 : upd H2 D (.lst (([V.int e0, V.int d1, V.int 0] : List V).set 1 (V.int (d1 + 1)))) D = some (.lst [V.int e0, V.int (d1 + 1), V.int 0]) := upd_same
      have g3 : Gx a [D] H2 (upd H2 D (.lst (([V.int e0, V.int d1, V.int 0] : List V).set 1 (V.int (d1 + 1))))) := Gx.set h2 rfl (by simp)
      generalize upd H2 D _ = H3 at *
      refine ⟨_, rfl, D, _, _, _, rfl, rfl, SqL.of h3, (at_ _ _ _).1, _, _, rfl, rfl, ⟨by decide, by decide⟩, ?_⟩
      refine ⟨_, rfl, D, _, _, _, rfl, rfl, SqL.of h3, (at_ _ _ _).1, _, _, rfl, rfl, .inl ⟨_, rfl, _, rfl, _, _, rfl, rfl, (show (0 : Int) < ((m : Nat) : Int) by omega), ?_⟩⟩
      obtain ⟨r, er, hrl⟩ := emod_nat (e0 / 7 + e0) hm
      have q := k r H3 hrl ⟨_, _, _, h3⟩ (g1.trans (g2.trans g3))
      rw [← er] at q
      exact q
    · refine tIfS_via (decide (d2 = 2) || (decide (d2 = 1) && decide (0 < d0))) (fun Q' hq => ?_) ?_
      · refine ⟨_, rfl, D, _, _, _, rfl, rfl, SqL.of hD, (at_ _ _ _).2.2, rfl, _, rfl, ?_⟩
        rw [show decide (V.int d2 = V.int 2) = decide (d2 = 2) by simp]
        cases h1 : decide (d2 = 2) with
        | true =>
          rw [h1] at hq
          exact iteT hq
        | false =>
          rw [h1] at hq
          refine iteF ?_
          refine ⟨_, rfl, D, _, _, _, rfl, rfl, SqL.of hD, (at_ _ _ _).2.2, rfl, _, rfl, ?_⟩
          rw [show decide (V.int d2 = V.int 1) = decide (d2 = 1) by simp]
          cases h2 : decide (d2 = 1) with
          | false =>
            rw [h2] at hq
            exact iteF hq
          | true =>
            rw [h2] at hq
            refine iteT ?_
            exact ⟨_, rfl, D, _, _, _, rfl, rfl, SqL.of hD, (at_ _ _ _).1, _, _, rfl, rfl, _, rfl, hq⟩
      · cases hb : (decide (d2 = 2) || (decide (d2 = 1) && decide (0 < d0))) with
        | false => exact iteF (fin _ _ ⟨rfl, rfl⟩)
        | true =>
          refine iteT ?_
          -- found = int(dice[0]) % many; dice[0] = dice[0] // many
          have hm' : (0 : Int) < ((m : Nat) : Int) := by omega
          refine ⟨_, rfl, D, _, _, _, rfl, rfl, SqL.of hD, (at_ _ _ _).1, .inl ⟨_, rfl, _, rfl, _, _, rfl, rfl, hm', ?_⟩⟩
          refine ⟨_, rfl, D, _, _, _, rfl, rfl, SqL.of hD, (at_ _ _ _).1, _, rfl, _, _, rfl, rfl, ⟨hm', by omega⟩, ?_⟩
          refine ⟨_, rfl, D, _, _, 0, rfl, rfl, hD, rfl, ?_⟩
          obtain ⟨r, er, hrl⟩ := emod_nat d0 hm
          refine ⟨_, rfl, ?_⟩
          have q := k r (upd H D (.lst (([V.int d0, V.int d1, V.int d2] : List V).set 0 (V.int (d0 / (m : Int)))))) hrl ⟨_, _, _, upd_same⟩ (Gx.set hD rfl (by simp))
          rw [← er] at q
          exact q
end
end K6

/-! ## KLaw2 -/
set_option maxRecDepth 100000
set_option maxHeartbeats 4000000
/-! The law's words. -/
namespace K6
open PySem PySem.Spec PyProof.Rows L2
/-- the characters of a text -/
def chars (x : Str) : List Str := x.cps.toList.map fun c => ⟨#[c]⟩
section
variable {X : Cx}
/-- list(text) -/
theorem call_listStr (hc : X.calm = true) : CallR X (.type "list") (fun xs H Q => ∃ x : Str, xs = [.str x] ∧ x.cps.size ≤ 1000 ∧ ∀ p, H p = none → Q (.ref p) (upd H p (.lst (strV (chars x))))) := by
  intro pins s σ H xs us Q I r h
  obtain ⟨x, rfl, hn, q⟩ := h
  obtain ⟨u, rfl, ru⟩ := vals1 r
  obtain ⟨t, rfl⟩ := ru
  have hh : X.A.handled = none := I.ok.hd hc
  have hsz : x.cps.size ≤ sizeLine := Nat.le_of_lt (sz1000 hn)
  refine call_list_str hh x t (fun h' tk acc' c' hk ho hi => ?_) hsz
  have hlen : (strV (chars x)).length = x.cps.size := by rw [strV_len]; simp [chars]
  have rv : Vals (strV (chars x)) acc'.toList := by
    refine vals_of_idx _ _ (by rw [Array.length_toList, hi.1, hlen]) fun j u hu => ?_
    have hu' : acc'[j]? = some u := by simpa using hu
    obtain ⟨c, t', hc', rfl⟩ := hi.2 j u hu'
    refine ⟨.str ⟨#[c]⟩, ?_, _, rfl⟩
    have hc'' : x.cps.toList[j]? = some c := by simpa using hc'
    unfold strV chars
    rw [List.map_map, List.getElem?_map, hc'']
    rfl
  have I1 : Inv X pins σ (upd H s.heap.objs.size (.lst (strV (chars x)))) { s with heap := h', toks := tk } :=
    I.laid hk (Nat.le_refl _) (show ObjOk X.prog X.w _ _ _ (.lst (strV (chars x))) from ⟨by rw [hlen]; exact hsz, acc'.toList, c', rv, by simpa using ho⟩)
  exact ⟨.ref s.heap.objs.size, _, I1, rfl, q _ (I.hok.fresh (Nat.le_refl _))⟩
def eqs (z : Str) (v : Value) : Bool := match v with
  | .str y _ => decide (y = z)
  | _ => false
theorem EqGives_str (a b : Str) (t u : Tok) : MeetsSeq.EqGives (.str a t) (.str b u) (decide (a = b)) := fun _ _ _ _ _ _ h => wpAny_eqBool_str h
theorem eqs_gives {z : Str} {t : Tok} : ∀ {us : List Value} {ns : List Str}, Vals (strV ns) us → ∀ y ∈ us, MeetsSeq.EqGives y (.str z t) (eqs z y)
  | [], _, _ => fun y hy => by cases hy
  | u :: us, [], h => by cases h
  | u :: us, n :: ns, h => fun y hy => by
    have h : Paired RelV (V.str n :: strV ns) (u :: us) := h
    cases h with
    | cons r1 r2 =>
      obtain ⟨t', rfl⟩ := r1
      rcases List.mem_cons.mp hy with e | e
      · rw [e]; exact EqGives_str n z t' t
      · exact eqs_gives r2 y e
theorem erase_mapS (l : List Str) (j : Nat) : (strV l).eraseIdx j = strV (l.eraseIdx j) := by
  unfold strV
  induction l generalizing j with
  | nil => simp
  | cons a l ih => cases j with
    | zero => simp
    | succ j => simp [ih]
/-- xs.remove(z), of words -/
def rRemS : V → List V → Hp → VK → Prop := fun x xs H Q => ∃ (l : Addr) (ns : List Str) (z : Str) (j : Nat), x = .ref l ∧ xs = [.str z] ∧ H l = some (.lst (strV ns)) ∧ ns[j]? = some z ∧ (∀ m : Nat, m < j → ns[m]? ≠ some z) ∧ Q .non (upd H l (.lst (strV (ns.eraseIdx j))))
theorem mt_removeS : MtM X "list.remove" rRemS := by
  intro pins s σ H x xs v us Q I rx rxs h
  obtain ⟨l, ns, k, j, rfl, rfl, hH, hj, hno, q⟩ := h
  cases rx
  obtain ⟨u, rfl, ru⟩ := rxs.one
  obtain ⟨t, rfl⟩ := ru
  obtain ⟨z, its, n, r, hl, e⟩ := I.lstM hH
  rw [strV_len] at hl z
  have hjn : j < ns.length := (List.getElem?_eq_some_iff.mp hj).1
  have hjl : j < its.toArray.size := by rw [List.size_toArray]; omega
  have itm : ∀ m (hm : m < its.toArray.size), ∃ t', its.toArray[m] = .str (ns[m]'(by rw [List.size_toArray] at hm; omega)) t' := fun m hm => by
    have hm' : m < ns.length := by rw [List.size_toArray] at hm; omega
    obtain ⟨u, hu, ⟨t', rfl⟩⟩ := r.get (strV_at (List.getElem?_eq_getElem hm'))
    obtain ⟨_, h2⟩ := List.getElem?_eq_some_iff.mp hu
    exact ⟨t', by simpa using h2⟩
  refine call_meets PySem.F.slot_list_remove ⟨_, e, rfl⟩ PySem.F.entry_list_remove (PySem.F.args_list_remove_2 _ _)
    (MeetsSeq.list_remove l its.toArray n (.str k t) (eqs k) (fun y hy => eqs_gives r y (by simpa using hy)) j hjl ?_ ?_ (by rw [List.size_toArray]; omega)) ⟨e, ?_⟩
  · obtain ⟨tj, e1⟩ := itm j hjl
    rw [e1]
    have : ns[j] = k := by rw [List.getElem?_eq_getElem hjn] at hj; exact Option.some.inj hj
    exact decide_eq_true this
  · intro m hm hmj
    have hmn : m < ns.length := by omega
    obtain ⟨tm, e1⟩ := itm m hm
    rw [e1]
    refine decide_eq_false fun e2 => hno m hmj ?_
    rw [List.getElem?_eq_getElem hmn, e2]
  · have rr := r.eraseIdx j
    rw [erase_mapS] at rr
    refine ⟨.non, _, I.lset (its' := its.eraseIdx j) (t' := s.toks) hH e ?_ rr ?_, rfl, q⟩
    · show its.toArray.eraseIdxIfInBounds j = (its.eraseIdx j).toArray
      rw [List.eraseIdxIfInBounds_toArray]
    · have z2 := len_erase ns j
      rw [strV_len]
      omega
end
theorem perm_erase {z : Str} : ∀ {l : List Str} {q : Nat}, l[q]? = some z → (z :: l.eraseIdx q).Perm l
  | [], q, h => by simp at h
  | y :: l, 0, h => by
    have e : y = z := by simpa using h
    subst e
    exact List.Perm.refl _
  | y :: l, q + 1, h => by
    have ih := perm_erase (l := l) (q := q) (by simpa using h)
    show (z :: y :: l.eraseIdx q).Perm (y :: l)
    exact (List.Perm.swap y z _).trans (List.Perm.cons y ih)
def spRounds (K : PySem.W.Frag) (a : Ad) : Sp := fun vs H Q _ => ∃ (s : Addr) (ns : List Int), vs = [.ref s, .int 1] ∧ SqL K H s (ns.map V.int) ∧ ∀ D H' (ds : List Addr), Gr a H H' → H' D = some (.lst (ds.map V.ref)) → ds.length ≤ 1 → (∀ d, d ∈ ds → DiceAt H' d) → Q (.ref D) H'
def placeS (l : List Str) : Option Str → Nat
  | none => l.length
  | some z => l.idxOf z
def spPlace (a : Ad) : Sp := fun vs H Q _ => ∃ (t : Addr) (l : List Str) (y : Option Str), vs = [.ref t, optS y] ∧ PT H t (strV l) ∧ l.length ≤ 1000 ∧ Q (.int (placeS l y : Nat)) H
def spWords (a : Ad) : Sp := fun vs H Q _ => ∃ (D : Addr) (x : Str), vs = [.ref D, .str x] ∧ DiceAt H D ∧ x.cps.size ≤ 100 ∧ (chars x).Nodup ∧ ∀ t H' (l : List Str), PT H' t (strV l) → l.Nodup → l.length ≤ 100 → (∀ z, z ∈ l → z ∈ chars x) → DiceAt H' D → Gx a [D] H H' → Q (.ref t) H'
section
variable {P : Program} {w : World} {K : PySem.W.Frag} {mg : Str → Option Value} {base : Heap} {a : Ad}
theorem sc_g_place : FnScope ["_law_order", "_law_one"] ["_law_order", "_law_one"] (defScope s_g_law_place) := ⟨rfl, rfl, rfl, by decide +kernel, rfl, by decide +kernel, by decide +kernel⟩
theorem ok_place (T : Txt K mg base a) : FnOk P w K mg base CX0 1 a.f_g_law_place a.d_g_law_place ["_law_order", "_law_one"] (spPlace a) := by
  refine T.F_g_law_place.ok sc_g_place (fun vs H Q E h => ?_) (fun cdv A outer s H vs Q E hr h => ?_)
  · obtain ⟨t, l, y, rfl, _⟩ := h
    rfl
  · obtain ⟨t, l, y, rfl, ht, hl, k⟩ := h
    refine ⟨_, pss_one (ps_ret (pe_ifExp (pt_cmpR (r := rIn K false) op_in_seq (pv 1) (pv 0) rfl) (pe_bmT (r := rTupIx K) PySem.F.slot_tuple_index PySem.F.type_tuple_index mt_tix (pv 0) (pa_cons (pv 1) pa_nil)) (pe_callB call_lenS (by rfl) T.z_len bt_len (pa_cons (pv 0) pa_nil)))), ?_⟩
    refine ⟨_, rfl, _, rfl, t, _, rfl, .inr ht.sq, by cases y <;> rfl, strV_flat _, _, rfl, ?_⟩
    rw [show (if false = true then !inV (optS y) (strV l) else inV (optS y) (strV l)) = inV (optS y) (strV l) from rfl]
    have out : placeS l y = l.length → (tCB (rLenS K) (tCons (tVar 0) tNil)) [some (.ref t), some (optS y)] H Q := fun e => by
      refine ⟨_, rfl, t, _, rfl, .inr ht.sq, ?_⟩
      show Q (V.int ((strV l).length : Nat)) H
      rw [strV_len, ← e]
      exact k
    cases y with
    | none =>
      have e : inV (V.non) (strV l) = false := by
        unfold inV strV
        rw [List.any_map, Bool.eq_false_iff]
        intro z
        obtain ⟨x, _, hx⟩ := List.any_eq_true.mp z
        cases hx
      rw [show inV (optS none) (strV l) = false from e]
      exact iteF (out rfl)
    | some z =>
      rw [show inV (optS (some z)) (strV l) = decide (z ∈ l) from inV_str z l]
      by_cases hz : z ∈ l
      · rw [decide_eq_true hz]
        refine iteT ?_
        obtain ⟨e1, e2⟩ := idx_first hz
        exact ⟨_, rfl, ⟨t, _, rfl, ht⟩, _, rfl, t, l, z, l.idxOf z, rfl, rfl, ht.sq, e1, e2, k⟩
      · rw [decide_eq_false hz]
        refine iteF (out ?_)
        show l.idxOf z = l.length
        exact List.idxOf_eq_length hz
theorem sc_g_rounds : FnScope ["_law_script", "_law_most_now", "_law_cells", "_law_cell"] ["_law_script", "_law_most_now"] (defScope s_g_law_rounds) := ⟨rfl, rfl, rfl, by decide +kernel, rfl, by decide +kernel, by decide +kernel⟩
theorem dpI {K : PySem.W.Frag} {H : Hp} : ∀ xs : List Int, ∃ ds, DpAll K H (xs.map V.int) ds ∧ ds.length = (xs.map V.int).length ∧ ∀ d, d ∈ ds → d.canLay0 = true ∧ d.depth ≤ 60
  | [] => ⟨[], .nil, rfl, fun _ z => by cases z⟩
  | x :: xs => by
    obtain ⟨ds, h, e, q⟩ := dpI (K := K) (H := H) xs
    refine ⟨.int x :: ds, .cons (.int _) h, by rw [List.length_cons, e]; rfl, fun d hd => ?_⟩
    rcases List.mem_cons.mp hd with rfl | hd
    · exact ⟨rfl, Nat.zero_le _⟩
    · exact q d hd
theorem ok_rounds (T : Txt K mg base a) : FnOk P w K mg base CX0 2 a.f_g_law_rounds a.d_g_law_rounds ["_law_script", "_law_most_now"] (spRounds K a) := by
  have GD : FnOk P w K mg base CX0 1 a.f_g_law_dice a.d_g_law_dice ["_law_cell"] (spDice a) := ok_dice T
  refine T.F_g_law_rounds.ok sc_g_rounds (fun vs H Q E h => ?_) (fun cdv A outer s H vs Q E hr h => ?_)
  · obtain ⟨s, ns, rfl, _⟩ := h
    rfl
  · obtain ⟨sc, ns, rfl, hs, k⟩ := h
    have nd := sc_g_rounds.nd
    refine ⟨_, pss_cons (ps_set (i := 2) nd rfl (by first | exact Or.inl rfl | exact Or.inr rfl) (pe_slice sl_list (pv 0) po_none (po_some (pv 1))))
      (pss_cons (ps_if (pt_cmpR (op_eqD hr.units) (pv 2) (pe_lst pa_nil) (nomark _)) (pss_one (ps_set (i := 2) nd rfl (by first | exact Or.inl rfl | exact Or.inr rfl) (pe_lst (pa_cons pe_int pa_nil)))) pss_nil)
      (pss_one (ps_ret (pe_lc (own := [("_law_cell", 3)]) (g := gName 3) (tt := tYes) (te := tCall (spDice a) [] E0 (tCons (tVar 3) tNil)) rfl nd (pi_list (pv 2)) (blkOk_by (N := ["_law_script", "_law_most_now", "_law_cells", "_law_cell"]) (sc := defScope s_g_law_rounds) (by decide +kernel))
          (fun _ _ _ _ _ => pg_name (i := 3) nd rfl (Or.inl rfl)) (fun _ _ _ _ _ => pts_nil) (fun _ _ _ _ _ => pe_call GD hr (by rfl) T.g_g_law_dice T.F_g_law_dice.kp T.b_g_law_dice .nil pass0 (pa_cons (pv 3) pa_nil)))))), ?_⟩
    dsimp only [tNext, tSeq, tAsg]
    have cut1 : ∃ ms : List Int, cutV (ns.map V.int) none (some 1) = ms.map V.int ∧ ms.length ≤ 1 := by
      refine ⟨ns.take 1, ?_, List.length_take_le _ _⟩
      unfold cutV
      rw [HT.sIx_none, show (some (1 : Int)) = some ((1 : Nat) : Int) from rfl, HT.sIx_nat, List.length_map, List.drop_zero, Nat.sub_zero, List.map_take]
      cases ns with
      | nil => rfl
      | cons n ns => rw [Nat.min_eq_left (by simp)]
    obtain ⟨ms, ems, lms⟩ := cut1
    refine ⟨_, rfl, _, rfl, _, rfl, sc, _, rfl, hs, fun D1 nD1 => ?_⟩
    rw [ems]
    have g1 : Gr a H (upd H D1 (.lst (ms.map V.int))) := Gx.new nD1
    have e1 : upd H D1 (.lst (ms.map V.int)) D1 = some (.lst (ms.map V.int)) := upd_same
    generalize upd H D1 _ = H1 at *
    dsimp only [gName]
    refine seq_via (t := tIfS _ _ _) (fun σ' H' => ∃ (D : Addr) (ms : List Int), σ' = [some (.ref sc), some (.int 1), some (.ref D), none] ∧ Gr a H H' ∧ H' D = some (.lst (ms.map V.int)) ∧ ms.length ≤ 1) (fun σ' H' hC => ?_) (fun fin => ?_)
    · obtain ⟨D, ms', rfl, g2, e2, l2⟩ := hC
      refine ⟨_, rfl, D, rfl, ⟨_, SqL.of e2⟩, fun D3 nD3 => ?_⟩
      refine lc_list (K := K) (a := D) (xs := ms'.map V.int) (fun i H'' => ∃ ds : List Addr, Gr a H' H'' ∧ H'' D3 = some (.lst (ds.map V.ref)) ∧ (∀ d, d ∈ ds → d ≠ D3 ∧ DiceAt H'' d) ∧ ds.length ≤ i) ⟨[], Gx.new nD3, upd_same, (fun _ z => by cases z), Nat.le_refl _⟩ (fun i H' _ ⟨_, g, _⟩ => SqL.of (Gr.lst g e2)) ?_ ?_
      · rintro i x H3 hx ⟨ds, g, hD, hds, hdl⟩
        obtain ⟨n, hn, rfl⟩ := map_get hx
        have hi : i < ms'.length := (List.getElem?_eq_some_iff.mp hn).1
        refine ⟨rfl, tYes_ok ?_⟩
        refine iteT ?_
        refine ⟨_, rfl, n, rfl, fun D4 H4 g4 nD4 dD4 => ?_⟩
        have hne : D4 ≠ D3 := (ne_of_none hD nD4).symm
        have hD' := Gr.lst g4 hD
        refine ⟨_, hD', sz1000 (by rw [List.length_map]; omega), ds ++ [D4], Gx.app (g.trans g4) nD3 hD' rfl, by rw [upd_same, List.map_append]; rfl, fun d hd => ?_, by rw [List.length_append, List.length_singleton]; omega⟩
        have st : ∀ d, d ≠ D3 → DiceAt H4 d → DiceAt (upd H4 D3 (.lst (ds.map V.ref ++ [V.ref D4]))) d := fun d hn ⟨x, y, z, e⟩ => ⟨x, y, z, (upd_ne hn).trans e⟩
        rcases List.mem_append.mp hd with z | z
        · exact ⟨(hds d z).1, st d (hds d z).1 ((hds d z).2.gx g4 (by simp))⟩
        · rw [List.mem_singleton.mp z]; exact ⟨hne, st D4 hne dD4⟩
      · rintro H3 ⟨ds, g, hD, hds, hdl⟩
        rw [List.length_map] at hdl
        exact k D3 H3 ds (g2.trans g) hD (by omega) fun d hd => (hds d hd).2
    · dsimp only [tIfS]
      refine ⟨_, rfl, Nat.zero_le _, fun e ne => ?_⟩
      refine eq_nilG (SqL.of (new_keep e1 ne)) (dpI ms) (SqL.of upd_same) ⟨_, rfl, ?_⟩
      cases hc : decide (ms.map V.int = []) with
      | true =>
        refine iteT ?_
        refine ⟨by show 1 ≤ sizeLine; decide, fun D5 nD5 => ?_⟩
        exact fin _ _ ⟨D5, [0], rfl, (g1.trans (Gx.new ne)).trans (Gx.new nD5), upd_same, Nat.le_refl _⟩
      | false =>
        refine iteF ?_
        exact fin _ _ ⟨D1, ms, rfl, g1.trans (Gx.new ne), new_keep e1 ne, lms⟩
theorem sc_g_words : FnScope ["_law_dice_here", "_law_words_here", "_law_left", "_law_found", "_law_turn", "_law_one"] ["_law_dice_here", "_law_words_here"] (defScope s_g_law_words) := ⟨rfl, rfl, rfl, by decide +kernel, rfl, by decide +kernel, by decide +kernel⟩
theorem ok_words (T : Txt K mg base a) : FnOk P w K mg base CX0 2 a.f_g_law_words a.d_g_law_words ["_law_dice_here", "_law_words_here"] (spWords a) := by
  have GR : FnOk P w K mg base CX0 1 a.f_g_law_roll a.d_g_law_roll ["_law_dice_here", "_law_many"] (spRoll a) := ok_roll T
  refine T.F_g_law_words.ok sc_g_words (fun vs H Q E h => ?_) (fun cdv A outer s H vs Q E hr h => ?_)
  · obtain ⟨D, x, rfl, _⟩ := h
    rfl
  · obtain ⟨D, x, rfl, hD, hx, hnd, k⟩ := h
    have nd := sc_g_words.nd
    refine ⟨_, pss_cons (ps_par (i := 2) (j := 3) rfl nd rfl rfl (by decide) rfl rfl (pa_cons (pe_callTy (call_listStr rfl) (by rfl) T.z_list bt_list (pa_cons (pv 1) pa_nil)) (pa_cons (pe_lst pa_nil) pa_nil)) (by rfl))
      (pss_cons (ps_for PassesOwn.never rfl (pi_range1 (by rfl) T.z_range (pa_cons (pe_call GR hr (by rfl) T.g_g_law_roll T.F_g_law_roll.kp T.b_g_law_roll .nil pass0 (pa_cons (pv 0) (pa_cons (pe_op op_add (pe_callB call_len_str (by rfl) T.z_len bt_len (pa_cons (pv 1) pa_nil)) pe_int) pa_nil))) pa_nil)) (pg_name (i := 4) nd rfl (Or.inl rfl))
        (pss_cons (ps_set (i := 5) nd rfl (Or.inl rfl) (pe_ix ix_list (pv 2) (pe_call GR hr (by rfl) T.g_g_law_roll T.F_g_law_roll.kp T.b_g_law_roll .nil pass0 (pa_cons (pv 0) (pa_cons (pe_callB call_lenS (by rfl) T.z_len bt_len (pa_cons (pv 2) pa_nil)) pa_nil))) (fun _ _ => rfl)))
        (pss_cons (ps_expr (pe_bm PySem.F.plainAttrs_list PySem.F.slot_list_append PySem.F.type_list_append mt_append (pv 3) (pa_cons (pv 5) pa_nil)))
        (pss_one (ps_expr (pe_bm PySem.F.plainAttrs_list PySem.F.slot_list_remove PySem.F.type_list_remove mt_removeS (pv 2) (pa_cons (pv 5) pa_nil)))))))
      (pss_one (ps_ret (pe_callTy call_tupleF (by rfl) T.z_tuple bt_tuple (pa_cons (pv 3) pa_nil))))), ?_⟩
    dsimp only [tNext, tSeq, tAsg]
    obtain ⟨_, _, _, hD0⟩ := id hD
    have lch : (chars x).length = x.cps.size := by simp [chars]
    have lx : x.length = (chars x).length := by rw [lch]; simp [Str.length]
    refine ⟨_, rfl, x, rfl, by omega, fun lf nlf => ?_⟩
    refine ⟨Nat.zero_le _, fun fd nfd => ⟨_, _, rfl, ?_⟩⟩
    have g1 : Gr a H (upd (upd H lf (.lst (strV (chars x)))) fd (.lst [])) := (Gx.new nlf).trans (Gx.new nfd)
    have hlf : upd (upd H lf (.lst (strV (chars x)))) fd (.lst []) lf = some (.lst (strV (chars x))) := new_keep upd_same nfd
    have hfd : upd (upd H lf (.lst (strV (chars x)))) fd (.lst []) fd = some (.lst (strV [])) := upd_same
    have nfdH : H fd = none := (Gx.new (a := a) (S := []) nlf).free _ nfd
    have lfd : lf ≠ fd := ne_of_none (upd_same : upd H lf (.lst (strV (chars x))) lf = _) nfd
    have dlf : D ≠ lf := ne_of_none hD0 nlf
    have dfd : D ≠ fd := ne_of_none hD0 nfdH
    generalize upd (upd H lf _) fd _ = H1 at *
    have hD1 := hD.gx g1 (by simp)
    -- for turn in range(roll(dice, len(words) + 1))
    refine ⟨_, rfl, _, rfl, x, rfl, by rw [lx, lch]; exact Nat.le_of_lt (sz1000 (by omega)), _, _, rfl, rfl, ?_⟩
    refine ⟨D, (chars x).length + 1, by rw [lx]; rfl, hD1, by omega, by omega, fun r H2 hr2 hD2 g2 => ?_⟩
    have hlf2 : H2 lf = some (.lst (strV (chars x))) := g2.lst hlf (by simpa using dlf.symm)
    have hfd2 : H2 fd = some (.lst (strV [])) := g2.lst hfd (by simpa using dfd.symm)
    refine ⟨(r : Int), rfl, by omega, by omega, ?_⟩
    rw [Int.toNat_natCast]
    refine for_range (lo := 0) (n := r) (fun i σ H' => ∃ (Lf Fd : List Str) (v4 v5 : Option V), σ = [some (.ref D), some (.str x), some (.ref lf), some (.ref fd), v4, v5] ∧ Gx a [D] H H' ∧ H' lf = some (.lst (strV Lf)) ∧ H' fd = some (.lst (strV Fd)) ∧ DiceAt H' D ∧
      Lf.length + i = (chars x).length ∧ Fd.length = i ∧ (Fd ++ Lf).Nodup ∧ ∀ z, z ∈ Fd ++ Lf → z ∈ chars x) ⟨chars x, [], none, none, rfl, g1.to.trans g2, hlf2, hfd2, hD2, rfl, rfl, hnd, fun _ h => h⟩ ?_ ?_
    · rintro i σ H3 hi ⟨Lf, Fd, v4, v5, rfl, g3, h3l, h3f, d3, e1, e2, nd3, ss3⟩
      have hpos : 0 < Lf.length := by omega
      refine ⟨_, rfl, _, rfl, _, rfl, lf, _, rfl, .inl (SqL.of h3l), ?_⟩
      refine ⟨D, Lf.length, by show [V.ref D, V.int ((strV Lf).length : Nat)] ++ [] = _; rw [strV_len]; rfl, d3, hpos, by omega, fun q H4 hq d4 g4 => ?_⟩
      have h4l : H4 lf = some (.lst (strV Lf)) := g4.lst h3l (by simpa using dlf.symm)
      have h4f : H4 fd = some (.lst (strV Fd)) := g4.lst h3f (by simpa using dfd.symm)
      obtain ⟨z, hz⟩ := get_lt hq
      refine ⟨lf, _, _, _, rfl, rfl, SqL.of h4l, atI_nat (strV_at hz), ?_⟩
      -- found.append(one)
      refine ⟨_, rfl, .inl ⟨rfl, _, SqL.of h4f⟩, _, rfl, fd, _, _, rfl, rfl, h4f, sz1000 (by rw [strV_len]; omega), ?_⟩
      have h5f : upd H4 fd (.lst (strV Fd ++ [V.str z])) fd = some (.lst (strV (Fd ++ [z]))) := by rw [upd_same, strV_snoc]
      have h5l : upd H4 fd (.lst (strV Fd ++ [V.str z])) lf = some (.lst (strV Lf)) := (upd_ne lfd).trans h4l
      have d5 : DiceAt (upd H4 fd (.lst (strV Fd ++ [V.str z]))) D := let ⟨x, y, z', e⟩ := d4; ⟨x, y, z', (upd_ne dfd).trans e⟩
      have g5 : Gx a [D] H (upd H4 fd (.lst (strV Fd ++ [V.str z]))) := (g3.trans g4).keepNew h4f rfl nfdH
      generalize upd H4 fd _ = H5 at *
      -- left.remove(one)
      have nf : ∀ m, m < q → Lf[m]? ≠ some z := fun m hm e => by
        have ndL := (List.nodup_append.mp nd3).2.1
        have h1 := DA.idx_at ndL e
        have h2 := DA.idx_at ndL hz
        omega
      refine ⟨_, rfl, .inl ⟨rfl, _, SqL.of h5l⟩, _, rfl, lf, Lf, z, q, rfl, rfl, h5l, hz, nf, ?_⟩
      have hzm := (List.getElem?_eq_some_iff.mp hz)
      obtain ⟨hq', ezq⟩ := hzm
      have pm : (z :: Lf.eraseIdx q).Perm Lf := perm_erase hz
      have pm2 : ((Fd ++ [z]) ++ Lf.eraseIdx q).Perm (Fd ++ Lf) := by
        rw [List.append_assoc]
        exact List.Perm.append_left Fd pm
      refine ⟨Lf.eraseIdx q, Fd ++ [z], _, _, rfl, g5.keepNew h5l rfl nlf, upd_same, (upd_ne lfd.symm).trans h5f, ?_, ?_, by rw [List.length_append, e2]; rfl, pm2.nodup_iff.mpr nd3, fun y hy => ss3 y (pm2.mem_iff.mp hy)⟩
      · obtain ⟨x, y, z', e⟩ := d5
        exact ⟨x, y, z', (upd_ne dlf).trans e⟩
      · rw [List.length_eraseIdx_of_lt hq']; omega
    · rintro σ H3 ⟨Lf, Fd, v4, v5, rfl, g3, h3l, h3f, d3, e1, e2, nd3, ss3⟩
      refine ⟨_, rfl, fd, _, rfl, SqL.of h3f, fun t H4 nt pt _ e4 => ?_⟩
      have g4 : Gr a H3 H4 := PT.new nt e4
      refine k t H4 Fd pt (List.nodup_append.mp nd3).1 (by omega) (fun z hz => ss3 z (List.mem_append_left _ hz)) (d3.gx g4 (by simp)) (g3.trans g4.to)
end
end K6

/-! ## KLaw2b -/
set_option maxRecDepth 100000
set_option maxHeartbeats 4000000
/-! What a deed leaves alone; no lie helps at the fair. -/
namespace K6
open PySem PySem.Spec PyProof.Rows L2
section
variable {P : Program} {w : World} {K : PySem.W.Frag} {mg : Str → Option Value} {base : Heap} {a : Ad} {H H' : Hp} {F : FAd} {f g : Fr}
theorem rk_dk {o : List Nat} {ks : List Str} {h : Str → V} (e : rkF 0 o = dkF ks h) : o = [] ∧ ks = [] := by
  cases o with
  | nil =>
    cases ks with
    | nil => exact ⟨rfl, rfl⟩
    | cons x ks => cases e
  | cons n o =>
    cases ks with
    | nil => cases e
    | cons x ks =>
      have h1 := congrArg (fun l => l.head?.map (·.1)) e
      have h2 : some (Sum.inl (n : Int) : Key) = some (Sum.inr x) := h1
      cases h2
theorem FairAt.tupOut (M : FairAt a H F f) {t : Addr} {xs : List V} (h : H t = some (.tup xs)) : t ∉ F.S := by
  obtain ⟨n, hp⟩ := M.ins
  obtain ⟨_, hl⟩ := M.wl
  obtain ⟨_, ho⟩ := M.wo
  have hs := M.s
  have hh := M.h
  have hn := M.n
  intro z
  simp only [FAd.S, List.mem_cons, List.not_mem_nil, or_false] at z
  rcases z with rfl | rfl | rfl | rfl | rfl | rfl
  · rw [h] at hp; cases hp
  · rw [h] at hl; cases hl
  · rw [h] at ho; cases ho
  · rw [h] at hs; cases hs
  · rw [h] at hh; cases hh
  · rw [h] at hn; cases hn
theorem FairAt.insOut (M : FairAt a H F f) {t C dx : Addr} {fs : List (Str × V)} (h : H t = some (.ins C dx fs)) (hC : a.cF ≠ C) : t ∉ F.S := by
  obtain ⟨n, hp⟩ := M.ins
  obtain ⟨_, hl⟩ := M.wl
  obtain ⟨_, ho⟩ := M.wo
  have hs := M.s
  have hh := M.h
  have hn := M.n
  intro z
  simp only [FAd.S, List.mem_cons, List.not_mem_nil, or_false] at z
  rcases z with rfl | rfl | rfl | rfl | rfl | rfl
  · rw [h] at hp
    injection (Option.some.inj hp) with q
    exact hC q.symm
  · rw [h] at hl; cases hl
  · rw [h] at ho; cases ho
  · rw [h] at hs; cases hs
  · rw [h] at hh; cases hh
  · rw [h] at hn; cases hn
/-- a wish stands behind a deed that changes no room -/
theorem WishAt.deed (T : Txt K mg base a) (M : FairAt a H F f) (M' : FairAt a H' F g) (gx : Gx a F.S H H') (hA : f.As ≠ []) (hR : g.Rs = f.Rs) {p : Addr} {o : List Nat} (h : WishAt a H p o) : WishAt a H' p o := by
  obtain ⟨dx, t, d, h1, h2, h3⟩ := h
  refine ⟨dx, t, d, gx.ins h1 (M.insOut h1 T.ne_FW), gx.tup h2 (M.tupOut h2), ?_⟩
  by_cases hd : d ∈ F.S
  · obtain ⟨n, hp⟩ := M.ins
    obtain ⟨lp, hl⟩ := M.wl
    obtain ⟨rp, hr⟩ := M.wo
    obtain ⟨rp', hr'⟩ := M'.wo
    have hs := M.s
    have hh := M.h
    have hn := M.n
    simp only [FAd.S, List.mem_cons, List.not_mem_nil, or_false] at hd
    have inj : ∀ {x y : List (Key × V)}, some (HO.dK x) = some (HO.dK y) → x = y := fun e => by cases e; rfl
    rcases hd with rfl | rfl | rfl | rfl | rfl | rfl
    · rw [h3] at hp; cases hp
    · rw [h3] at hl; exact absurd (rk_dk (inj hl)).2 hA
    · rw [h3] at hr
      obtain ⟨e1, e2⟩ := rk_dk (inj hr)
      rw [hr', hR, e2, e1]; rfl
    · rw [h3] at hs
      obtain ⟨e1, e2⟩ := rk_dk (inj hs)
      rw [M'.s, hR, e2, e1]; rfl
    · rw [h3] at hh; exact absurd (rk_dk (inj hh)).2 hA
    · rw [h3] at hn; exact absurd (rk_dk (inj hn)).2 hA
  · exact gx.dk h3 hd
theorem MktAt.deed (T : Txt K mg base a) (M : FairAt a H F f) (M' : FairAt a H' F g) (gx : Gx a F.S H H') (hA : f.As ≠ []) (hR : g.Rs = f.Rs) {p : Addr} {L O : List (List Nat)} {S : List Nat} (h : MktAt a H p L O S) : MktAt a H' p L O S := by
  obtain ⟨dx, la, lr, t, as, rs, h1, h2, h3, h4, h5, h6⟩ := h
  exact ⟨dx, la, lr, t, as, rs, gx.ins h1 (M.insOut h1 T.ne_FM), gx.lst h2 (M.lstOut h2), gx.lst h3 (M.lstOut h3), gx.tup h4 (M.tupOut h4), Paired.mapP h5 fun _ _ x => x.deed T M M' gx hA hR, Paired.mapP h6 fun _ _ x => x.deed T M M' gx hA hR⟩
end
/-- the fair g is f but for the list of x -/
structure SameF (x : Str) (f g : Fr) : Prop where
  A : g.As = f.As
  R : g.Rs = f.Rs
  o : g.os = f.os
  s : g.st = f.st
  l : ∀ z, z ≠ x → g.ls z = f.ls z
theorem SameF.refl {x : Str} {f : Fr} : SameF x f f := ⟨rfl, rfl, rfl, rfl, fun _ _ => rfl⟩
theorem SameF.tell {x : Str} {f g : Fr} {l : List Str} {nx' : Str → Nat} {hd' : Str → Option Str} (h : SameF x f g) (hx : x ∈ f.As) : SameF x f { g.tell x l with nx := nx', hd := hd' } :=
  ⟨by show addS g.As x = f.As; rw [h.A]; exact Fr.tell_As (l := l) hx, h.R, h.o, h.s, fun z hz => by
    show DA.setF g.ls x l z = _
    rw [DA.setF_ne _ _ hz]; exact h.l z hz⟩
theorem SameF.back {x : Str} {f g : Fr} {nx' : Str → Nat} {hd' : Str → Option Str} (h : SameF x f g) (hx : x ∈ f.As) : SameF x f { g.tell x (f.ls x) with nx := nx', hd := hd' } ∧ (g.tell x (f.ls x)).ls = f.ls := by
  refine ⟨h.tell hx, ?_⟩
  funext z
  show DA.setF g.ls x (f.ls x) z = _
  by_cases hz : z = x
  · rw [hz, DA.setF_same]
  · rw [DA.setF_ne _ _ hz]; exact h.l z hz
theorem place_rk {f : Fr} {x : Str} (y : Option Str) : DA.rk f.m x y = placeS (f.ls x) y := by cases y <;> rfl
theorem as_all {f : Fr} (ok : f.Ok) {z : Str} (h : f.m.pref z ≠ []) : z ∈ f.As := Classical.byContradiction fun q => h (ok.dA z q).1
/-- no list of x's own gets x more -/
theorem fair_law {f g : Fr} {x : Str} (ok : f.Ok) (Ff : DA.Final f.m f.s) (Fg : DA.Final g.m g.s) (h : SameF x f g) : ¬ placeS (f.ls x) (g.hd x) < placeS (f.ls x) (f.hd x) := fun lt => by
  have := DA.no_lie ok.good Ff Fg.stable (show g.os = f.os from h.o) (show g.st = f.st from h.s) f.As ok.nA (fun z hz => as_all ok hz) (fun z hz => ?_) x
  · refine this ?_
    show DA.rk f.m x (g.hd x) < DA.rk f.m x (f.hd x)
    rw [place_rk, place_rk]; exact lt
  · by_cases hzx : z = x
    · subst hzx
      refine absurd ?_ hz
      show DA.rk f.m z (g.hd z) < DA.rk f.m z (f.hd z)
      rw [place_rk, place_rk]; exact lt
    · exact h.l z hzx
/-- with the true lists back, everyone is held as before -/
theorem fair_back {f g : Fr} {x : Str} (ok : f.Ok) (Ff : DA.Final f.m f.s) (Fg : DA.Final g.m g.s) (h : SameF x f g) (hl : g.ls = f.ls) (z : Str) : f.hd z = g.hd z := by
  have e : g.m = f.m := by
    show DA.Mkt.mk _ _ _ = DA.Mkt.mk _ _ _
    rw [hl, h.o, h.s]
  rw [e] at Fg
  exact DA.unique ok.good Ff Fg f.As ok.nA (fun z hz => as_all ok hz) z
/-- dict of the match -/
theorem match_pairs {K : PySem.W.Frag} {H : Hp} {ps : List Addr} {ys : List Str} {hd : Str → Option Str} (pr : Paired (fun p y => H p = some (.tup [.str y, optS (hd y)])) ps ys) : Paired (fun p kv => SqT K H p [kV kv.1, kv.2]) ps (dkF ys fun y => optS (hd y)) := by
  unfold dkF
  refine pairedMap (α := Addr) (β := Str) (γ := Key × V) (g := fun y => (Sum.inr y, optS (hd y))) ?_
  exact Paired.mapP pr fun p y h => (.inl (.inl h) : SqT K H p [V.str y, optS (hd y)])
theorem match_merge {ys : List Str} {h : Str → V} (hy : ys.Nodup) : mergeK [] (dkF ys h) = dkF ys h :=
  mergeK_nodup (by rw [dkF_keys]; exact List.Pairwise.map (fun n : Str => (Sum.inr n : Key)) (fun a b hab z => hab (Sum.inr.inj z)) hy)
end K6

/-! ## KLaw3 -/
set_option maxRecDepth 100000
set_option maxHeartbeats 4000000
/-! The law's walk. -/
namespace K6
open PySem PySem.Spec PyProof.Rows L2
def rTupF (K : PySem.W.Frag) : List V → Hp → VK → Prop := fun xs H Q => ∃ p ys, xs = [.ref p] ∧ SqL K H p ys ∧ ∀ l H', H l = none → PT H' l ys → (∀ b, b ≠ l → H' b = H b) → (∃ o, H' = upd H l (.frz o (.tup ys))) → Q (.ref l) H'
theorem cr_tupF {X : Cx} : CallR X (.type "tuple") (rTupF X.K) := call_tupleF
abbrev lawN : List Str := ["_law_script", "_law_dice_here", "_law_fair", "_law_step", "_law_one", "_law_room", "_law_order", "_law_rows", "_law_count", "_law_askers", "_law_rooms", "_law_market", "_law_truth", "_law_k", "_law_lists", "_law_number", "_law_true_lists", "_law_had", "_law_j"]
def spLaw (K : PySem.W.Frag) (a : Ad) : Sp := fun vs H Q _ => ∃ (s : Addr) (ns : List Int), vs = [.ref s] ∧ SqL K H s (ns.map V.int) ∧ Tb a H ∧ ∀ H', Q (.bl true) H'
/-- the fair between the deeds -/
structure LawF (a : Ad) (H : Hp) (F : FAd) (f : Fr) (D : Addr) : Prop where
  M : FairAt a H F f
  ok : f.Ok
  fin : DA.Final f.m f.s
  d : DiceAt H D
  sa : ∀ z, z ∈ f.As → z ∈ chars ("abc" : Str)
  sr : ∀ z, z ∈ f.Rs → z ∈ chars ("xy" : Str)
theorem LawF.gr {a : Ad} {H H' : Hp} {F : FAd} {f : Fr} {D : Addr} (L : LawF a H F f D) (g : Gr a H H') : LawF a H' F f D := ⟨L.M.gr g, L.ok, L.fin, L.d.gx g (by simp), L.sa, L.sr⟩
theorem LawF.roll {a : Ad} {H H' : Hp} {F : FAd} {f : Fr} {D : Addr} (L : LawF a H F f D) (hD : D ∉ F.S) (g : Gx a [D] H H') (d : DiceAt H' D) : LawF a H' F f D :=
  ⟨L.M.gx1 g hD fun t xs ⟨o, e, _⟩ z => (by
    obtain ⟨x, y, z', e'⟩ := L.d
    rw [z, e'] at e
    cases e), L.ok, L.fin, d, L.sa, L.sr⟩
theorem DiceAt.pt {a : Ad} {H H' : Hp} {D t : Addr} {xs : List V} (d : DiceAt H D) (g : Gx a [D] H H') (h : PT H t xs) : PT H' t xs := h.gx g fun z => by
  obtain ⟨x, y, z', e'⟩ := d
  obtain ⟨o, e, _⟩ := h
  rw [List.mem_singleton.mp z, e'] at e; cases e
theorem frNew_ok : frNew.Ok := ⟨List.nodup_nil, List.nodup_nil, Nat.zero_le _, Nat.zero_le _, fun _ _ => ⟨rfl, rfl, rfl⟩, fun _ _ => ⟨rfl, rfl⟩, fun _ => ⟨List.nodup_nil, Nat.zero_le _⟩, fun _ => ⟨List.nodup_nil, Nat.zero_le _⟩, fun _ h => (by cases h), fun _ _ h => (by cases h)⟩
theorem frNew_fin : DA.Final frNew.m frNew.s := ⟨⟨_, _, DA.Inv.start _⟩, fun _ _ => Nat.le_refl _⟩
theorem sub_len {α : Type} [DecidableEq α] {zs l : List α} (nd : zs.Nodup) (nl : l.Nodup) (h : ∀ z, z ∈ zs → z ∈ l) : zs.length ≤ l.length := by
  have h1 : (zs.filter fun z => decide (z ∈ zs)).length = (l.filter fun z => decide (z ∈ zs)).length :=
    DA.countP_eq_of nd nl (fun x hx => of_decide_eq_true hx) fun x hx => h x (of_decide_eq_true hx)
  have h2 : zs.filter (fun z => decide (z ∈ zs)) = zs := List.filter_eq_self.mpr fun z hz => decide_eq_true hz
  rw [h2] at h1
  rw [h1]
  exact List.length_filter_le _ _
theorem abc_nd : (chars ("abc" : Str)).Nodup := by decide +kernel
theorem xy_nd : (chars ("xy" : Str)).Nodup := by decide +kernel
theorem abc_len : (chars ("abc" : Str)).length = 3 := by decide +kernel
theorem xy_len : (chars ("xy" : Str)).length = 2 := by decide +kernel
theorem abc_ok : ∀ z, z ∈ chars ("abc" : Str) → PyData.strOk z = true := by decide +kernel
theorem xy_ok : ∀ z, z ∈ chars ("xy" : Str) → PyData.strOk z = true := by decide +kernel
/-- a character of a text by a roll -/
theorem char_at {x : Str} {n r : Nat} (hx : (chars x).length = n) (hn : n ≤ 1000) (hr : r < n) {H : Hp} {Q : VK} (k : ∀ z, z ∈ chars x → Q (.str z) H) : rIxS (.str x) (.int (r : Nat)) H Q := by
  have hl : x.cps.toList.length = n := by rw [← hx]; simp [chars]
  obtain ⟨c, hc⟩ := get_lt (l := x.cps.toList) (i := r) (by omega)
  refine ⟨x, _, c, rfl, rfl, ?_, atI_nat hc, k _ (List.mem_map.mpr ⟨c, List.mem_of_getElem? hc, rfl⟩)⟩
  have : x.length = n := by rw [← hl]; simp [Str.length]
  rw [this]; exact Nat.le_of_lt (sz1000 hn)
/-- a deed is done -/
theorem LawF.deed {a : Ad} {H H' : Hp} {F : FAd} {f g : Fr} {D : Addr} {nx' : Str → Nat} {hd' : Str → Option Str} (L : LawF a H F f D) (hD : D ∉ F.S) (M' : FairAt a H' F { g with nx := nx', hd := hd' }) (ok' : Fr.Ok { g with nx := nx', hd := hd' }) (F' : DA.Final g.m ⟨nx', hd'⟩) (gx : Gx a F.S H H')
    (sa : ∀ z, z ∈ g.As → z ∈ chars ("abc" : Str)) (sr : ∀ z, z ∈ g.Rs → z ∈ chars ("xy" : Str)) : LawF a H' F { g with nx := nx', hd := hd' } D := ⟨M', ok', F', L.d.gx gx hD, sa, sr⟩
theorem tIfS_via2 {c : TT} {t u : TS} {D : Ends} {σ : L2.St} {H : Hp} (C : Hp → Prop) (b : Bool) (hc : ∀ Q : Bool → Hp → Prop, (∀ H', C H' → Q b H') → c σ H Q) (h : ∀ H', C H' → if b = true then t D σ H' else u D σ H') : tIfS c t u D σ H := hc _ h
theorem list19 {α : Type} {l : List α} (h : l.length = 19) : ∃ v0 v1 v2 v3 v4 v5 v6 v7 v8 v9 v10 v11 v12 v13 v14 v15 v16 v17 v18, l = [v0, v1, v2, v3, v4, v5, v6, v7, v8, v9, v10, v11, v12, v13, v14, v15, v16, v17, v18] := by
  match l, h with
  | [v0, v1, v2, v3, v4, v5, v6, v7, v8, v9, v10, v11, v12, v13, v14, v15, v16, v17, v18], _ => exact ⟨v0, v1, v2, v3, v4, v5, v6, v7, v8, v9, v10, v11, v12, v13, v14, v15, v16, v17, v18, rfl⟩
section
variable {P : Program} {w : World} {K : PySem.W.Frag} {mg : Str → Option Value} {base : Heap} {a : Ad}
theorem sc_g_law : FnScope lawN ["_law_script"] (defScope s_g_law) := ⟨rfl, rfl, rfl, by decide +kernel, rfl, by decide +kernel, by decide +kernel⟩
theorem ok_law (T : Txt K mg base a) : FnOk P w K mg base CX0 9 a.f_g_law a.d_g_law ["_law_script"] (spLaw K a) := by
  have GRo : FnOk P w K mg base CX0 2 a.f_g_law_rounds a.d_g_law_rounds ["_law_script", "_law_most_now"] (spRounds K a) := ok_rounds T
  have GR : FnOk P w K mg base CX0 1 a.f_g_law_roll a.d_g_law_roll ["_law_dice_here", "_law_many"] (spRoll a) := ok_roll T
  have GW : FnOk P w K mg base CX0 2 a.f_g_law_words a.d_g_law_words ["_law_dice_here", "_law_words_here"] (spWords a) := ok_words T
  have GP : FnOk P w K mg base CX0 1 a.f_g_law_place a.d_g_law_place ["_law_order", "_law_one"] (spPlace a) := ok_place T
  have GF : FnOk P w K mg base CX0 1 a.f_F_init a.d_F_init ["self"] (spFInit a) := ok_F_init T
  have Gw : FnOk P w K mg base CX0 5 a.f_F_wish a.d_F_wish ["self", "asker", "rooms"] (spFWish a) := ok_F_wish T
  have Gc : FnOk P w K mg base CX0 4 a.f_F_come a.d_F_come ["self", "asker", "rooms"] (spFCome a) := ok_F_come T
  have Go : FnOk P w K mg base CX0 5 a.f_F_open_room a.d_F_open_room ["self", "room", "askers", "count"] (spFOpen a) := ok_F_open T
  have Gh : FnOk P w K mg base CX0 5 a.f_F_change_room a.d_F_change_room ["self", "room", "askers", "count"] (spFChange a) := ok_F_change T
  have Gn : FnOk P w K mg base CX0 1 a.f_F_names a.d_F_names ["self"] (spFNames a) := ok_F_names T
  have Gm : FnOk P w K mg base CX0 1 a.f_F_match a.d_F_match ["self"] (spFMatch a) := ok_F_match T
  have Ga : FnOk P w K mg base CX0 5 a.f_F_as_market a.d_F_as_market ["self"] (spFMarket a) := ok_F_market T
  have GB : FnOk P w K mg base CX0 8 a.f_g_best_lie a.d_g_best_lie ["market", "asker"] (spBestLie a) := ok_best_lie T
  have GL : FnOk P w K mg base CX0 7 a.f_g_lot_lie a.d_g_lot_lie ["market", "lot"] (spLotLie a) := ok_lot_lie T
  have GA : FnOk P w K mg base CX0 1 a.f_g_all_lists a.d_g_all_lists ["many"] (spAllLists a) := ok_all_lists T
  refine T.F_g_law.ok sc_g_law (fun vs H Q E h => ?_) (fun cdv A outer s H vs Q E hr h => ?_)
  · obtain ⟨s, ns, rfl, _⟩ := h
    rfl
  · obtain ⟨sc, ns, rfl, hs, tb, k⟩ := h
    have hu := hu_of hr
    have nd := sc_g_law.nd
    have hr1 : Room 1 _ := hr.mono (by decide)
    have hr2 : Room 2 _ := hr.mono (by decide)
    have hr4 : Room 4 _ := hr.mono (by decide)
    have hr5 : Room 5 _ := hr.mono (by decide)
    have hr7 : Room 7 _ := hr.mono (by decide)
    refine ⟨_, (pss_cons (ps_for PassesOwn.never rfl (pi_list (pe_call GRo hr2 (by rfl) T.g_g_law_rounds T.F_g_law_rounds.kp T.b_g_law_rounds .nil pass0 (pa_cons (pv 0) (pa_cons pe_int pa_nil)))) (pg_name (i := 1) nd rfl (Or.inl rfl))
 (pss_cons (ps_set (i := 2) nd rfl (Or.inl rfl) (pe_make0 T.mk_F GF hr2 (by rfl) T.gc_F T.b_F_init .nil pass0))
 (pss_cons (ps_for PassesOwn.never rfl (pi_range1 (by rfl) T.z_range (pa_cons (pe_op op_add pe_int (pe_call GR hr1 (by rfl) T.g_g_law_roll T.F_g_law_roll.kp T.b_g_law_roll .nil pass0 (pa_cons (pv 1) (pa_cons pe_int pa_nil)))) pa_nil)) (pg_name (i := 3) nd rfl (Or.inl rfl))
 (pss_cons (ps_par (i := 4) (j := 5) rfl nd rfl rfl (by decide) rfl rfl (pa_cons (pe_ix ix_str pe_str (pe_call GR hr1 (by rfl) T.g_g_law_roll T.F_g_law_roll.kp T.b_g_law_roll .nil pass0 (pa_cons (pv 1) (pa_cons pe_int pa_nil))) (fun _ _ => rfl)) (pa_cons (pe_ix ix_str pe_str (pe_call GR hr1 (by rfl) T.g_g_law_roll T.F_g_law_roll.kp T.b_g_law_roll .nil pass0 (pa_cons (pv 1) (pa_cons pe_int pa_nil))) (fun _ _ => rfl)) pa_nil)) (by rfl))
 (pss_cons (ps_par3 (i := 6) (j := 7) (l := 8) rfl nd rfl rfl rfl (by decide) (by decide) (by decide) rfl rfl rfl (pa_cons (pe_call GW hr2 (by rfl) T.g_g_law_words T.F_g_law_words.kp T.b_g_law_words .nil pass0 (pa_cons (pv 1) (pa_cons pe_str pa_nil))) (pa_cons (pe_call GW hr2 (by rfl) T.g_g_law_words T.F_g_law_words.kp T.b_g_law_words .nil pass0 (pa_cons (pv 1) (pa_cons pe_str pa_nil))) (pa_cons (pe_call GR hr1 (by rfl) T.g_g_law_roll T.F_g_law_roll.kp T.b_g_law_roll .nil pass0 (pa_cons (pv 1) (pa_cons pe_int pa_nil))) pa_nil))) (by rfl))
 (pss_one (ps_if (pt_cmpR op_eq (pe_call GR hr1 (by rfl) T.g_g_law_roll T.F_g_law_roll.kp T.b_g_law_roll .nil pass0 (pa_cons (pv 1) (pa_cons pe_int pa_nil))) pe_int (nomark _)) (pss_one (ps_if (pt_cmp (pc_din hu (pv 4) (pe_fld (pv 2) rfl)) rfl) (pss_one (ps_expr (pe_meth (pv 2) T.cl_F T.m_F_wish Gw hr5 T.b_F_wish .nil pass0 (pa_cons (pv 4) (pa_cons (pv 6) pa_nil))))) (pss_one (ps_expr (pe_meth (pv 2) T.cl_F T.m_F_come Gc hr4 T.b_F_come .nil pass0 (pa_cons (pv 4) (pa_cons (pv 6) pa_nil))))))) (pss_one (ps_if (pt_cmp (pc_din hu (pv 5) (pe_fld (pv 2) rfl)) rfl) (pss_one (ps_expr (pe_meth (pv 2) T.cl_F T.m_F_change_room Gh hr5 T.b_F_change_room .nil pass0 (pa_cons (pv 5) (pa_cons (pv 7) (pa_cons (pv 8) pa_nil)))))) (pss_one (ps_expr (pe_meth (pv 2) T.cl_F T.m_F_open_room Go hr5 T.b_F_open_room .nil pass0 (pa_cons (pv 5) (pa_cons (pv 7) (pa_cons (pv 8) pa_nil)))))))))))))
 (pss_cons (ps_asg (pe_meth0 (pv 2) T.cl_F T.m_F_names Gn hr1 T.b_F_names .nil pass0) (pg_tup rfl (pgs_cons (pg_name (i := 9) nd rfl (by first | exact Or.inl rfl | exact Or.inr rfl)) (pgs_cons (pg_name (i := 10) nd rfl (by first | exact Or.inl rfl | exact Or.inr rfl)) pgs_nil))))
 (pss_cons (ps_par (i := 11) (j := 12) rfl nd rfl rfl (by decide) rfl rfl (pa_cons (pe_meth0 (pv 2) T.cl_F T.m_F_as_market Ga hr5 T.b_F_as_market .nil pass0) (pa_cons (pe_callTy (call_dictPT rfl) (by rfl) T.z_dict bt_dict (pa_cons (pe_meth0 (pv 2) T.cl_F T.m_F_match Gm hr1 T.b_F_match .nil pass0) pa_nil)) pa_nil)) (by rfl))
 (pss_cons (ps_for PassesOwn.never rfl (pi_range1 (by rfl) T.z_range (pa_cons (pe_callB call_lenS (by rfl) T.z_len bt_len (pa_cons (pv 9) pa_nil)) pa_nil)) (pg_name (i := 13) nd rfl (Or.inl rfl))
 (pss_one (ps_if (pt_cmpR op_notN (pe_call GB hr (by rfl) T.g_g_best_lie T.F_g_best_lie.kp T.b_g_best_lie .nil pass0 (pa_cons (pv 11) (pa_cons (pv 13) pa_nil))) pe_non (nomark _)) (pss_one (ps_ret pe_bl)) pss_nil)))
 (pss_cons (ps_setLc (i := 14) (own := [("_law_order", 6)]) (g := gName 6) (tt := tYes) (te := tCB (rTupF K) (tCons (tLc (iTup K (tVar 6)) (gName 15) tYes (tOp (rIxT K) (tVar 10) (tVar 15)) [15]) tNil)) rfl nd rfl rfl (sw_true rfl rfl rfl (by decide +kernel))
            (pi_tup (pe_call GA hr1 (by rfl) T.g_g_all_lists T.F_g_all_lists.kp T.b_g_all_lists .nil pass0 (pa_cons (pe_callB call_lenS (by rfl) T.z_len bt_len (pa_cons (pv 10) pa_nil)) pa_nil)))
            (blkOk_by (N := lawN) (sc := defScope s_g_law) (by decide +kernel))
            (fun _ _ _ _ _ => pg_name (i := 6) nd rfl (Or.inl rfl)) (fun _ _ _ _ _ => pts_nil)
            (fun _ _ _ _ _ => pe_callTy (r := rTupF K) cr_tupF (by rfl) T.z_tuple bt_tuple (pa_cons (pe_lc (own := [("_law_number", 15)]) (g := gName 15) rfl nd (pi_tup (pv 6))
              (blkOk_by (N := lawN) (sc := { kind := .function, names := [(".0", .local), ("_law_order", .local), ("tuple", .globalImplicit), ("_law_rooms", .cell)], isGenerator := false, isCoroutine := false }) (by decide +kernel))
              (fun _ _ _ _ _ => pg_name (i := 15) nd rfl (Or.inl rfl)) (fun _ _ _ _ _ => pts_nil) (fun _ _ _ _ _ => pe_ix (r := rIxT K) ix_tup (pv 10) (pv 15) (fun _ _ => rfl))) pa_nil)))
 (pss_cons (ps_set (i := 16) nd rfl (Or.inl rfl) (pe_callTy call_dictD (by rfl) T.z_dict bt_dict (pa_cons (pe_fld (pv 2) rfl) pa_nil)))
 (pss_cons (ps_for PassesOwn.never rfl (pi_tup (pv 9)) (pg_name (i := 4) nd rfl (Or.inl rfl))
 (pss_cons (ps_for PassesOwn.never rfl (pi_list (pv 14)) (pg_name (i := 6) nd rfl (Or.inl rfl))
 (pss_cons (ps_expr (pe_meth (pv 2) T.cl_F T.m_F_wish Gw hr5 T.b_F_wish .nil pass0 (pa_cons (pv 4) (pa_cons (pv 6) pa_nil))))
 (pss_cons (ps_set (i := 17) nd rfl (Or.inl rfl) (pe_dget hu (pe_callTy (call_dictPT rfl) (by rfl) T.z_dict bt_dict (pa_cons (pe_meth0 (pv 2) T.cl_F T.m_F_match Gm hr1 T.b_F_match .nil pass0) pa_nil)) (pv 4) (fun _ _ => rfl)))
 (pss_one (ps_if (pt_cmpR (r := rIn K false) op_in_seq (pv 17) (pe_op (r := rCatA K) op_catA (pe_callTy call_tupleT (by rfl) T.z_tuple bt_tuple (pa_cons (pe_dget hu (pv 16) (pv 4) (fun _ _ => rfl)) pa_nil)) (pe_tup (pa_cons pe_non pa_nil))) rfl) (pss_one (ps_if (pt_cmpR op_lt (pe_call GP hr1 (by rfl) T.g_g_law_place T.F_g_law_place.kp T.b_g_law_place .nil pass0 (pa_cons (pe_dget hu (pv 16) (pv 4) (fun _ _ => rfl)) (pa_cons (pv 17) pa_nil))) (pe_call GP hr1 (by rfl) T.g_g_law_place T.F_g_law_place.kp T.b_g_law_place .nil pass0 (pa_cons (pe_dget hu (pv 16) (pv 4) (fun _ _ => rfl)) (pa_cons (pe_dget hu (pv 12) (pv 4) (fun _ _ => rfl)) pa_nil))) (nomark _)) (pss_one (ps_ret pe_bl)) pss_nil)) pss_nil)))))
 (pss_cons (ps_expr (pe_meth (pv 2) T.cl_F T.m_F_wish Gw hr5 T.b_F_wish .nil pass0 (pa_cons (pv 4) (pa_cons (pe_dget hu (pv 16) (pv 4) (fun _ _ => rfl)) pa_nil))))
 (pss_one (ps_if (pt_cmpR (op_ne_dictA hr.units0) (pe_callTy (call_dictPT rfl) (by rfl) T.z_dict bt_dict (pa_cons (pe_meth0 (pv 2) T.cl_F T.m_F_match Gm hr1 T.b_F_match .nil pass0) pa_nil)) (pv 12) (nomark _)) (pss_one (ps_ret pe_bl)) pss_nil)))))
 (pss_one (ps_for PassesOwn.never rfl (pi_range1 (by rfl) T.z_range (pa_cons (pe_callB call_lenS (by rfl) T.z_len bt_len (pa_cons (pv 9) pa_nil)) pa_nil)) (pg_name (i := 13) nd rfl (Or.inl rfl))
 (pss_one (ps_for PassesOwn.never rfl (pi_range1 (by rfl) T.z_range (pa_cons (pv 13) pa_nil)) (pg_name (i := 18) nd rfl (Or.inl rfl))
 (pss_one (ps_if (pt_cmpR op_notN (pe_call GL hr7 (by rfl) T.g_g_lot_lie T.F_g_lot_lie.kp T.b_g_lot_lie .nil pass0 (pa_cons (pv 11) (pa_cons (pe_lst (pa_cons (pv 18) (pa_cons (pv 13) pa_nil))) pa_nil))) pe_non (nomark _)) (pss_one (ps_ret pe_bl)) pss_nil)))))))))))))))
 (pss_one (ps_ret pe_bl))), ?_⟩
    have sc0 : sc = sc := rfl
    refine ⟨_, rfl, sc, ns, rfl, hs, fun RL H1 dls g1 hRL hdl hdice => ?_⟩
    refine ⟨RL, rfl, ⟨_, SqL.of hRL⟩, ?_⟩
    refine for_list (K := K) (a := RL) (xs := dls.map V.ref) (fun i σ H' => σ.length = 19 ∧ H' RL = some (.lst (dls.map V.ref)) ∧ (i = 0 → Tb a H' ∧ ∀ d, d ∈ dls → DiceAt H' d)) ⟨rfl, hRL, fun _ => ⟨g1.tb tb, hdice⟩⟩ (fun i σ H' _ h => SqL.of h.2.1) ?_ ?_
    · rintro i x σ H2 hx ⟨hsl, hRL2, h0⟩
      obtain ⟨D, hDm, rfl⟩ := map_get hx
      have hi0 : i = 0 := by have := (List.getElem?_eq_some_iff.mp hDm).1; omega
      obtain ⟨tb2, hd2⟩ := h0 hi0
      have hD2 := hd2 D (List.mem_of_getElem? hDm)
      have hDRL : D ≠ RL := fun z => by
        obtain ⟨x, y, z', e⟩ := hD2
        rw [z, hRL2] at e
        have e : HO.lst (dls.map V.ref) = HO.lst [V.int x, V.int y, V.int z'] := Option.some.inj e
        injection e with e
        cases dls with
        | nil => cases e
        | cons d ds => injection e with e1 _; cases e1
      obtain ⟨v0, v1, v2, v3, v4, v5, v6, v7, v8, v9, v10, v11, v12, v13, v14, v15, v16, v17, v18, rfl⟩ := list19 hsl
      dsimp only [gName]
      -- fair = Fair()
      intro p dx np ndx nne
      refine ⟨p, dx, rfl, upd_same, fun H3 F hFp M3 g3 hFn => ⟨rfl, ?_⟩⟩
      have gI : Gr a H2 (upd (upd H2 dx (.own p)) p (.ins a.cF dx [])) := Gx.inst np ndx nne
      have nS : ∀ b, b ∈ F.S → H2 b = none := fun b hb => by
        by_cases hbp : b = p
        · rw [hbp]; exact np
        · exact gI.free b (hFn b hb hbp)
      have g23 : Gr a H2 H3 := Gx.over gI g3 fun b hb => by rw [List.mem_singleton.mp hb]; exact np
      have hDS : D ∉ F.S := fun z => by
        obtain ⟨x, y, z', e⟩ := hD2
        rw [nS D z] at e; cases e
      have hRS : RL ∉ D :: F.S := fun z => by
        rcases List.mem_cons.mp z with z | z
        · exact hDRL z.symm
        · rw [nS RL z] at hRL2; cases hRL2
      subst hFp
      have L3 : LawF a H3 F frNew D := ⟨M3, frNew_ok, frNew_fin, hD2.gx g23 (by simp), fun z h => (by cases h), fun z h => (by cases h)⟩
      have tb3 := g23.tb tb2
      have hRL3 := Gr.lst g23 hRL2
      dsimp only [gName]
      -- the deeds
      refine seq_via (t := tFor _ _ _) (fun σ' H' => σ'.length = 19 ∧ σ'[1]? = some (some (V.ref D)) ∧ σ'[2]? = some (some (V.ref F.p)) ∧ Gx a (D :: F.S) H3 H' ∧ ∃ f, LawF a H' F f D) (fun σ' H4 hC => ?_) (fun fin => ?_)
      · obtain ⟨hsl4, hs41, hs42, g34, f, L4⟩ := hC
        obtain ⟨w0, w1, w2, w3, w4, w5, w6, w7, w8, w9, w10, w11, w12, w13, w14, w15, w16, w17, w18, rfl⟩ := list19 hsl4
        have e1 : w1 = some (V.ref D) := Option.some.inj hs41
        have e2 : w2 = some (V.ref F.p) := Option.some.inj hs42
        subst e1; subst e2
        have hRL4 : H4 RL = some (.lst (dls.map V.ref)) := g34.lst hRL3 hRS
        have tb4 := g34.tb tb3
        have M4 := L4.M
        have ok := L4.ok
        have Ff := L4.fin
        -- askers, rooms = fair.names()
        obtain ⟨n4, hp4⟩ := M4.ins
        refine ⟨_, rfl, F.p, F.dx, _, rfl, hp4, ff_un (by decide +kernel), F, f, rfl, M4, ok, fun t5 H5 pa pr ya yr g5 ht5 hpa hpr pA pR => ?_⟩
        refine ⟨t5, _, rfl, SqT.of ht5, rfl, _, _, rfl, _, _, rfl, rfl, ?_⟩
        have M5 := M4.gr g5
        obtain ⟨n5, hp5⟩ := M5.ins
        -- market, truth = (fair.as_market(), dict(fair.match()))
        refine ⟨_, rfl, F.p, F.dx, _, rfl, hp5, ff_un (by decide +kernel), F, f, rfl, M5, ok, g5.tb tb4, fun m H6 L O S g6 MM wf hL => ?_⟩
        have M6 := M5.gr g6
        obtain ⟨n6, hp6⟩ := M6.ins
        refine ⟨_, rfl, F.p, F.dx, _, rfl, hp6, ff_un (by decide +kernel), F, f, rfl, M6, ok, fun t7 H7 ys ps g7 pt7 pr7 pY => ?_⟩
        have M7 := M6.gr g7
        refine ⟨t7, ps, _, rfl, pt7, match_pairs pr7, fun d12 nd12 => ?_⟩
        rw [match_merge (pY.nodup_iff.mpr ok.nA)]
        refine ⟨_, _, rfl, ?_⟩
        have g8 : Gr a H7 (upd H7 d12 (.dK (dkF ys fun y => optS (f.hd y)))) := Gx.new nd12
        have h12 : upd H7 d12 (.dK (dkF ys fun y => optS (f.hd y))) d12 = some (.dK (dkF ys fun y => optS (f.hd y))) := upd_same
        have s12 : d12 ∉ F.S := M7.out nd12
        generalize upd H7 d12 _ = H8 at *
        have M8 := M7.gr g8
        have g48 := g5.trans (g6.trans (g7.trans g8))
        have MM8 := (MM.gr g7).gr g8
        have hpa8 := hpa.gr (g6.trans (g7.trans g8))
        have hpr8 := hpr.gr (g6.trans (g7.trans g8))
        have hRL8 := Gr.lst g48 hRL4
        have tb8 := g48.tb tb4
        have lya : ya.length = L.length := by rw [hL]; exact pA.length_eq
        have lyr : yr.length ≤ 2 := by rw [pR.length_eq]; exact ok.cR
        have lya10 : ya.length ≤ 10 := by rw [pA.length_eq]; exact ok.cA
        -- best_lie
        dsimp only
        refine seq_via (t := tFor _ _ _) (fun σ' H' => σ'.length = 19 ∧ σ'[2]? = some (some (V.ref F.p)) ∧ σ'[9]? = some (some (V.ref pa)) ∧ σ'[10]? = some (some (V.ref pr)) ∧ σ'[11]? = some (some (V.ref m)) ∧ σ'[12]? = some (some (V.ref d12)) ∧ Gr a H8 H') (fun σ' H9 hC => ?_) (fun fin => ?_)
        · obtain ⟨hsl9, q2, q9, q10, q11, q12, g9⟩ := hC
          obtain ⟨w0, w1, w2, w3, w4, w5, w6, w7, w8, w9, w10, w11, w12, w13, w14, w15, w16, w17, w18, rfl⟩ := list19 hsl9
          have e2 : w2 = some (V.ref F.p) := Option.some.inj q2
          have e9 : w9 = some (V.ref pa) := Option.some.inj q9
          have e10 : w10 = some (V.ref pr) := Option.some.inj q10
          have e11 : w11 = some (V.ref m) := Option.some.inj q11
          have e12 : w12 = some (V.ref d12) := Option.some.inj q12
          subst e2; subst e9; subst e10; subst e11; subst e12
          have tb9 := g9.tb tb8
          have hpr9 := hpr8.gr g9
          -- lists = [..]
          refine ⟨_, rfl, pr, _, rfl, .inr hpr9.sq, ?_⟩
          refine ⟨yr.length, by show [V.int ((strV yr).length : Nat)] ++ [] = _; rw [strV_len]; rfl, lyr, tb9, fun tl tls H10 g10 htl hlen hlt => ?_⟩
          have hpr10 := hpr9.gr g10
          refine ⟨tl, rfl, ⟨_, SqT.of htl⟩, fun D14 nD14 => ?_⟩
          refine lc_tup (K := K) (a := tl) (xs := tls.map V.ref) (fun i H' => ∃ qs : List Addr, Gr a H10 H' ∧ H' D14 = some (.lst (qs.map V.ref)) ∧ qs.length = i ∧ ∀ q, q ∈ qs → ∃ l, PT H' q (strV l) ∧ okL l ∧ ∀ z, z ∈ l → PyData.strOk z = true) ⟨[], Gx.new nD14, upd_same, rfl, fun _ z => by cases z⟩ (fun i H' _ ⟨_, g, _⟩ => SqT.of (Gr.tup g htl)) ?_ ?_
          · rintro i x H' hx ⟨qs, g, hD14, hql, hqs⟩
            obtain ⟨q, hq, rfl⟩ := map_get hx
            obtain ⟨o, ho, o1, o2, o3⟩ := (hlt q (List.mem_of_getElem? hq)).gr g
            have hi : i < tls.length := (List.getElem?_eq_some_iff.mp hq).1
            refine ⟨rfl, tYes_ok ?_⟩
            refine iteT ?_
            refine ⟨_, rfl, q, rfl, ⟨_, SqT.of ho⟩, fun D15 nD15 => ?_⟩
            refine lc_tup (K := K) (a := q) (xs := natV o) (fun j H'' => Gr a H' H'' ∧ H'' D15 = some (.lst (strV ((o.take j).map fun n => yr.getD n ⟨#[]⟩)))) ⟨Gx.new nD15, upd_same⟩ (fun i H' _ ⟨g, _⟩ => SqT.of (Gr.tup g ho)) ?_ ?_
            · rintro j x H'' hx ⟨gg, hD15⟩
              obtain ⟨n, hn, rfl⟩ := natV_get hx
              have hnl := o2 n (List.mem_of_getElem? hn)
              obtain ⟨z, hz⟩ := get_lt hnl
              refine ⟨rfl, tYes_ok ?_⟩
              refine iteT ?_
              refine ⟨_, rfl, _, rfl, pr, _, _, _, rfl, rfl, (hpr10.gr (g.trans gg)).sq, atI_nat (strV_at hz), ?_⟩
              refine ⟨_, hD15, sz1000 (by rw [strV_len, List.length_map]; exact Nat.le_trans (List.length_take_le' ..) (by omega)), Gx.app gg nD15 hD15 rfl, ?_⟩
              rw [upd_same, strV_snoc, take_snoc hn, List.map_append]
              show _ = some (HO.lst (strV (_ ++ [yr.getD n ⟨#[]⟩])))
              rw [getD_of hz]
            · rintro H'' ⟨gg, hD15⟩
              rw [natV_len, List.take_length] at hD15
              refine ⟨D15, _, rfl, SqL.of hD15, fun l16 H16 nl16 pt16 _ e16 => ?_⟩
              have g16 : Gr a H' H16 := gg.trans (PT.new nl16 e16)
              have hD16 := Gr.lst g16 hD14
              refine ⟨_, hD16, sz1000 (by rw [List.length_map]; omega), qs ++ [l16], Gx.app (g.trans g16) nD14 hD16 rfl, by rw [upd_same, List.map_append]; rfl, by rw [List.length_append, hql]; rfl, fun q' hq' => ?_⟩
              have st : ∀ {q l}, PT H16 q (strV l) → PT (upd H16 D14 (.lst (qs.map V.ref ++ [V.ref l16]))) q (strV l) := fun {q l} ⟨o', e', r'⟩ => ⟨o', by rw [upd_ne (ne_of e' hD16 (by intro z; cases z))]; exact e', r'⟩
              rcases List.mem_append.mp hq' with z | z
              · obtain ⟨l, p1, p2, p3⟩ := hqs q' z
                exact ⟨l, st (p1.gr g16), p2, p3⟩
              · rw [List.mem_singleton.mp z]
                refine ⟨_, st pt16, ⟨?_, by rw [List.length_map]; exact o3⟩, fun z hz => ?_⟩
                · rw [List.nodup_iff_pairwise_ne, List.pairwise_map]
                  refine List.Pairwise.imp_of_mem (fun {n k} hn hk hne e => hne ?_) o1
                  obtain ⟨zn, hzn⟩ := get_lt (o2 n hn)
                  obtain ⟨zk, hzk⟩ := get_lt (o2 k hk)
                  rw [getD_of hzn, getD_of hzk] at e
                  have ndr : yr.Nodup := pR.nodup_iff.mpr ok.nR
                  rw [← DA.idx_at ndr hzn, ← DA.idx_at ndr hzk, e]
                · obtain ⟨n, hn, rfl⟩ := List.mem_map.mp hz
                  obtain ⟨zn, hzn⟩ := get_lt (o2 n hn)
                  rw [getD_of hzn]
                  exact xy_ok zn (L4.sr zn (pR.mem_iff.mp (List.mem_of_getElem? hzn)))
          rintro H11 ⟨qs, g11, hD14, hql, hqs⟩
          dsimp only [gName]
          have g8b := g9.trans (g10.trans g11)
          have M11 := M8.gr g8b
          obtain ⟨n11, hp11⟩ := M11.ins
          obtain ⟨lp, hl11, hlp⟩ := M11.lw
          -- true_lists = dict(fair.lists)
          refine ⟨_, rfl, F.p, a.cF, F.dx, _, _, rfl, hp11, T.cl_F, T.n_F_lists, ff_lists, F.dl, _, rfl, .inl hl11, fun d16 nd16 => ?_⟩
          have g12 : Gr a H11 (upd H11 d16 (.dK (dkF f.As fun k => V.ref (lp k)))) := Gx.new nd16
          have h16 : upd H11 d16 (.dK (dkF f.As fun k => V.ref (lp k))) d16 = some (.dK (dkF f.As fun k => V.ref (lp k))) := upd_same
          have s16 : d16 ∉ F.S := M11.out nd16
          generalize upd H11 d16 _ = H12 at *
          have g8c := g8b.trans g12
          have M12 := M8.gr g8c
          have hpa12 := hpa8.gr g8c
          have hRL12 := Gr.lst g8c hRL8
          have MM12 := MM8.gr g8c
          have h12' := Gr.dk g8c h12
          have hD14' := Gr.lst g12 hD14
          have tb12 := g8c.tb tb8
          have sRL : RL ∉ F.S := fun z => hRS (by simp [z])
          have s14 : D14 ∉ F.S := M12.lstOut hD14'
          have hlp' : ∀ x, x ∈ f.As → PT H12 (lp x) (strV (f.ls x)) := fun x hx => (hlp x hx).gr g12
          have hqs' : ∀ q, q ∈ qs → ∃ l, PT H12 q (strV l) ∧ okL l ∧ ∀ z, z ∈ l → PyData.strOk z = true := fun q hq => let ⟨l, p1, p2, p3⟩ := hqs q hq; ⟨l, p1.gr g12, p2, p3⟩
          have ptS : ∀ {t xs H'}, PT H12 t xs → Gx a F.S H12 H' → PT H' t xs := fun h g => M12.pt h g
          dsimp only [gName]
          have lyL : L.length = ya.length := lya.symm
          -- the wishes
          refine seq_via (t := tFor _ _ _) (fun σ' H' => σ'.length = 19 ∧ σ'[9]? = some (some (V.ref pa)) ∧ σ'[11]? = some (some (V.ref m)) ∧ H' RL = some (.lst (dls.map V.ref)) ∧ PT H' pa (strV ya) ∧ Tb a H' ∧ (ya ≠ [] → MktAt a H' m L O S)) (fun σ' H13 hC => ?_) (fun fin2 => ?_)
          · obtain ⟨hsl13, q9, q11, hRL13, hpa13, tb13, hM13⟩ := hC
            obtain ⟨u0, u1, u2, u3, u4, u5, u6, u7, u8, u9, u10, u11, u12, u13, u14, u15, u16, u17, u18, rfl⟩ := list19 hsl13
            have e9 : u9 = some (V.ref pa) := Option.some.inj q9
            have e11 : u11 = some (V.ref m) := Option.some.inj q11
            subst e9; subst e11
            refine ⟨_, rfl, pa, _, rfl, .inr hpa13.sq, ((ya.length : Nat) : Int), by show [V.int ((strV ya).length : Nat)] = _; rw [strV_len], by omega, by omega, ?_⟩
            rw [Int.toNat_natCast]
            refine for_range (lo := 0) (n := ya.length) (fun i σ' H' => σ'.length = 19 ∧ σ'[11]? = some (some (V.ref m)) ∧ Gr a H13 H') ⟨rfl, rfl, Gx.refl⟩ ?_ ?_
            · rintro i σ' H14 hi ⟨hsl14, q11', g14⟩
              obtain ⟨u0, u1, u2, u3, u4, u5, u6, u7, u8, u9, u10, u11, u12, u13, u14, u15, u16, u17, u18, rfl⟩ := list19 hsl14
              have e11 : u11 = some (V.ref m) := Option.some.inj q11'
              subst e11
              have hM14 := (hM13 (by intro z; rw [z] at hi; exact absurd hi (Nat.not_lt_zero _))).gr g14
              dsimp only [gName]
              refine ⟨_, rfl, (i : Int), by rw [Int.zero_add], by omega, by omega, ?_⟩
              rw [Int.toNat_natCast]
              refine for_range (lo := 0) (n := i) (fun j σ' H' => σ'.length = 19 ∧ σ'[11]? = some (some (V.ref m)) ∧ σ'[13]? = some (some (V.int ((i : Nat) : Int))) ∧ Gr a H13 H') ⟨rfl, rfl, by show some (some (V.int (0 + (i : Int)))) = _; rw [Int.zero_add], g14⟩ ?_ (fun σ' H' h => ⟨h.1, h.2.1, h.2.2.2⟩)
              rintro j σ' H15 hj ⟨hsl15, q11'', q13, g15⟩
              obtain ⟨u0, u1, u2, u3, u4, u5, u6, u7, u8, u9, u10, u11, u12, u13, u14, u15, u16, u17, u18, rfl⟩ := list19 hsl15
              have e11 : u11 = some (V.ref m) := Option.some.inj q11''
              have e13 : u13 = some (V.int ((i : Nat) : Int)) := Option.some.inj q13
              subst e11; subst e13
              have hM15 := (hM13 (by intro z; rw [z] at hi; exact absurd hi (Nat.not_lt_zero _))).gr g15
              dsimp only [gName]
              refine ⟨_, rfl, _, rfl, _, rfl, by show 2 ≤ sizeLine; decide, fun ll nll => ?_⟩
              have gl : Gr a H15 (upd H15 ll (.lst [V.int (0 + (j : Int)), V.int (i : Nat)])) := Gx.new nll
              have hll : upd H15 ll (.lst [V.int (0 + (j : Int)), V.int (i : Nat)]) ll = some (.lst (natV [j, i])) := by rw [upd_same, Int.zero_add]; rfl
              refine ⟨m, ll, [j, i], L, O, S, rfl, hll, Nat.le_refl _, by simp, fun c hc => ?_, hM15.gr gl, wf, (g15.trans gl).tb tb13, fun H16 g16 => ?_⟩
              · have hc : c = j ∨ c = i := by simpa using hc
                rcases hc with rfl | rfl <;> omega
              refine ⟨rfl, _, rfl, ?_⟩
              refine iteF ?_
              exact ⟨rfl, rfl, rfl, g15.trans (gl.trans g16)⟩
            · rintro σ' H14 ⟨hsl14, q11', g14⟩
              exact ⟨hsl14, Gr.lst g14 hRL13, fun z => by cases z⟩
          · refine ⟨_, rfl, pa, rfl, ⟨_, hpa12.sq⟩, ?_⟩
            refine for_tup (K := K) (a := pa) (xs := strV ya) (fun i σ' H' => σ'.length = 19 ∧ σ'[2]? = some (some (V.ref F.p)) ∧ σ'[9]? = some (some (V.ref pa)) ∧ σ'[11]? = some (some (V.ref m)) ∧ σ'[12]? = some (some (V.ref d12)) ∧ σ'[14]? = some (some (V.ref D14)) ∧ σ'[16]? = some (some (V.ref d16)) ∧ Gx a F.S H12 H' ∧
              ∃ nx' hd', FairAt a H' F { f with nx := nx', hd := hd' } ∧ Fr.Ok { f with nx := nx', hd := hd' } ∧ DA.Final f.m ⟨nx', hd'⟩) ⟨rfl, rfl, rfl, rfl, rfl, rfl, rfl, Gx.refl, f.nx, f.hd, M12, ok, Ff⟩ (fun i σ' H' _ h => (ptS hpa12 h.2.2.2.2.2.2.2.1).sq) ?_ ?_
            · rintro i x σ' H14 hx ⟨hsl14, q2, q9, q11, q12, q14, q16, g14, nx14, hd14, M14, ok14, F14⟩
              obtain ⟨one, hone, rfl⟩ := strV_get hx
              have hA : one ∈ f.As := pA.mem_iff.mp (List.mem_of_getElem? hone)
              obtain ⟨u0, u1, u2, u3, u4, u5, u6, u7, u8, u9, u10, u11, u12, u13, u14, u15, u16, u17, u18, rfl⟩ := list19 hsl14
              have e2 : u2 = some (V.ref F.p) := Option.some.inj q2
              have e9 : u9 = some (V.ref pa) := Option.some.inj q9
              have e11 : u11 = some (V.ref m) := Option.some.inj q11
              have e12 : u12 = some (V.ref d12) := Option.some.inj q12
              have e14 : u14 = some (V.ref D14) := Option.some.inj q14
              have e16 : u16 = some (V.ref d16) := Option.some.inj q16
              subst e2; subst e9; subst e11; subst e12; subst e14; subst e16
              dsimp only [gName]
              have ymem : one ∈ ys := pY.mem_iff.mpr hA
              -- for order in lists
              refine seq_via (t := tFor _ _ _) (fun σ' H' => σ'.length = 19 ∧ σ'[2]? = some (some (V.ref F.p)) ∧ σ'[4]? = some (some (V.str one)) ∧ σ'[9]? = some (some (V.ref pa)) ∧ σ'[11]? = some (some (V.ref m)) ∧ σ'[12]? = some (some (V.ref d12)) ∧ σ'[14]? = some (some (V.ref D14)) ∧ σ'[16]? = some (some (V.ref d16)) ∧ Gx a F.S H12 H' ∧
                ∃ g, FairAt a H' F g ∧ g.Ok ∧ DA.Final g.m g.s ∧ SameF one f g) (fun σ' H15 hC => ?_) (fun fin3 => ?_)
              · obtain ⟨hsl15, q2, q4, q9, q11, q12, q14, q16, g15, g, Mg, okg, Fg, sg⟩ := hC
                obtain ⟨u0, u1, u2, u3, u4, u5, u6, u7, u8, u9, u10, u11, u12, u13, u14, u15, u16, u17, u18, rfl⟩ := list19 hsl15
                have e2 : u2 = some (V.ref F.p) := Option.some.inj q2
                have e4 : u4 = some (V.str one) := Option.some.inj q4
                have e9 : u9 = some (V.ref pa) := Option.some.inj q9
                have e11 : u11 = some (V.ref m) := Option.some.inj q11
                have e12 : u12 = some (V.ref d12) := Option.some.inj q12
                have e14 : u14 = some (V.ref D14) := Option.some.inj q14
                have e16 : u16 = some (V.ref d16) := Option.some.inj q16
                subst e2; subst e4; subst e9; subst e11; subst e12; subst e14; subst e16
                -- fair.wish(one, true_lists[one])
                obtain ⟨n15, hp15⟩ := Mg.ins
                have h16' := g15.dk h16 s16
                refine ⟨_, rfl, F.p, F.dx, _, rfl, hp15, ff_un (by decide +kernel), _, rfl, _, rfl, _, rfl, d16, _, rfl, dget_w (.inl h16') hA, F, g, one, lp one, f.ls one, rfl, Mg, okg, Fg, by rw [sg.A]; exact hA, ptS (hlp' one hA) g15, ok.wl one, ok.sL one, fun v16 H16 nx16 hd16 M16 ok16 F16 g16 => ?_⟩
                obtain ⟨sb, sl⟩ := sg.back (nx' := nx16) (hd' := hd16) hA
                have em : (g.tell one (f.ls one)).m = f.m := by
                  show DA.Mkt.mk _ _ _ = DA.Mkt.mk _ _ _
                  rw [sl, show (g.tell one (f.ls one)).os = f.os from sg.o, show (g.tell one (f.ls one)).st = f.st from sg.s]
                have ef : ({ g.tell one (f.ls one) with nx := nx16, hd := hd16 } : Fr) = { f with nx := nx16, hd := hd16 } := by
                  show Fr.mk _ _ _ _ _ _ _ = Fr.mk _ _ _ _ _ _ _
                  rw [show (g.tell one (f.ls one)).As = f.As from sb.A, show (g.tell one (f.ls one)).Rs = f.Rs from sb.R, sl, show (g.tell one (f.ls one)).os = f.os from sg.o, show (g.tell one (f.ls one)).st = f.st from sg.s]
                rw [ef] at M16 ok16
                rw [em] at F16
                have g12' := g15.trans g16
                -- if dict(fair.match()) != truth
                obtain ⟨n16, hp16⟩ := M16.ins
                refine ⟨_, rfl, F.p, F.dx, _, rfl, hp16, ff_un (by decide +kernel), F, _, rfl, M16, ok16, fun t17 H17 ys17 ps17 g17 pt17 pr17 pY17 => ?_⟩
                refine ⟨t17, ps17, _, rfl, pt17, match_pairs pr17, fun d18 nd18 => ?_⟩
                rw [match_merge (pY17.nodup_iff.mpr ok.nA)]
                have h12'' := new_keep (o := .dK (dkF ys17 fun y => optS (hd16 y))) (Gr.dk g17 (g12'.dk h12' s12)) nd18
                have hun : ∀ z, f.hd z = hd16 z := fun z => DA.unique ok.good Ff F16 f.As ok.nA (fun z hz => as_all ok hz) z
                refine ⟨_, rfl, d18, d12, _, _, rfl, rfl, upd_same, h12'', ?_, fun p hp => ?_, _, rfl, ?_⟩
                · rw [dkF_len, dkF_len, pY17.length_eq, pY.length_eq]
                · obtain ⟨y, hy, rfl⟩ := List.mem_map.mp hp
                  refine ⟨?_, ?_⟩
                  · show valV (dkF ys fun y => optS (f.hd y)) (Sum.inr y : Key) = some (optS (hd16 y))
                    rw [dkF_val, if_pos (pY.mem_iff.mpr (pY17.mem_iff.mp hy)), hun y]
                  · show flatB (optS (hd16 y)) = true
                    cases hd16 y <;> rfl
                · refine iteF ?_
                  exact ⟨rfl, rfl, rfl, rfl, rfl, rfl, rfl, g12'.trans (g17.trans (Gx.new nd18)).to, nx16, hd16, M16.gr (g17.trans (Gx.new nd18)), ok16, F16⟩
              · refine ⟨_, rfl, D14, rfl, ⟨_, SqL.of (g14.lst hD14' s14)⟩, ?_⟩
                refine for_list (K := K) (a := D14) (xs := qs.map V.ref) (fun j σ' H' => σ'.length = 19 ∧ σ'[2]? = some (some (V.ref F.p)) ∧ σ'[4]? = some (some (V.str one)) ∧ σ'[9]? = some (some (V.ref pa)) ∧ σ'[11]? = some (some (V.ref m)) ∧ σ'[12]? = some (some (V.ref d12)) ∧ σ'[14]? = some (some (V.ref D14)) ∧ σ'[16]? = some (some (V.ref d16)) ∧ Gx a F.S H12 H' ∧
                  ∃ g, FairAt a H' F g ∧ g.Ok ∧ DA.Final g.m g.s ∧ SameF one f g) ⟨rfl, rfl, rfl, rfl, rfl, rfl, rfl, rfl, g14, _, M14, ok14, F14, ⟨rfl, rfl, rfl, rfl, fun _ _ => rfl⟩⟩ (fun j σ' H' _ h => SqL.of (h.2.2.2.2.2.2.2.2.1.lst hD14' s14)) ?_ (fun σ' H' h => fin3 σ' H' h)
                rintro j x σ' H15 hx ⟨hsl15, q2, q4, q9, q11, q12, q14, q16, g15, g, Mg, okg, Fg, sg⟩
                obtain ⟨qo, hqo, rfl⟩ := map_get hx
                obtain ⟨lo, plo, olo, slo⟩ := hqs' qo (List.mem_of_getElem? hqo)
                obtain ⟨u0, u1, u2, u3, u4, u5, u6, u7, u8, u9, u10, u11, u12, u13, u14, u15, u16, u17, u18, rfl⟩ := list19 hsl15
                have e2 : u2 = some (V.ref F.p) := Option.some.inj q2
                have e4 : u4 = some (V.str one) := Option.some.inj q4
                have e9 : u9 = some (V.ref pa) := Option.some.inj q9
                have e11 : u11 = some (V.ref m) := Option.some.inj q11
                have e12 : u12 = some (V.ref d12) := Option.some.inj q12
                have e14 : u14 = some (V.ref D14) := Option.some.inj q14
                have e16 : u16 = some (V.ref d16) := Option.some.inj q16
                subst e2; subst e4; subst e9; subst e11; subst e12; subst e14; subst e16
                dsimp only [gName]
                -- fair.wish(one, order)
                obtain ⟨n15, hp15⟩ := Mg.ins
                refine ⟨_, rfl, F.p, F.dx, _, rfl, hp15, ff_un (by decide +kernel), _, rfl, _, rfl, F, g, one, qo, lo, rfl, Mg, okg, Fg, by rw [sg.A]; exact hA, ptS plo g15, olo, slo, fun v16 H16 nx16 hd16 M16 ok16 F16 g16 => ?_⟩
                have sg' : SameF one f { g.tell one lo with nx := nx16, hd := hd16 } := sg.tell hA
                have g12' := g15.trans g16
                -- had = dict(fair.match())[one]
                obtain ⟨n16, hp16⟩ := M16.ins
                refine ⟨_, rfl, F.p, F.dx, _, rfl, hp16, ff_un (by decide +kernel), F, _, rfl, M16, ok16, fun t17 H17 ys17 ps17 g17 pt17 pr17 pY17 => ?_⟩
                refine ⟨t17, ps17, _, rfl, pt17, match_pairs pr17, fun d18 nd18 => ?_⟩
                rw [match_merge (pY17.nodup_iff.mpr ok16.nA)]
                have hA17 : one ∈ ys17 := pY17.mem_iff.mpr (by rw [sg'.A]; exact hA)
                have g18 : Gr a H17 (upd H17 d18 (.dK (dkF ys17 fun y => optS (hd16 y)))) := Gx.new nd18
                have h18 : upd H17 d18 (.dK (dkF ys17 fun y => optS (hd16 y))) d18 = some (.dK (dkF ys17 fun y => optS (hd16 y))) := upd_same
                refine ⟨_, rfl, d18, _, rfl, dget_w (f := fun y => optS (hd16 y)) (.inl h18) hA17, ?_⟩
                generalize upd H17 d18 _ = H18 at *
                have g12s := g12'.trans (g17.trans g18).to
                have M18 := M16.gr (g17.trans g18)
                have h16' := g12s.dk h16 s16
                have h12'' := g12s.dk h12' s12
                have ptl := ptS (hlp' one hA) g12s
                have fin4 : ∀ (v17 : Option V) H', Gr a H18 H' → ([u0, u1, some (V.ref F.p), u3, some (V.str one), u5, some (V.ref qo), u7, u8, some (V.ref pa), u10, some (V.ref m), some (V.ref d12), u13, some (V.ref D14), u15, some (V.ref d16), v17, u18] : L2.St).length = 19 ∧ (some (some (V.ref F.p)) : Option (Option V)) = some (some (V.ref F.p)) ∧ (some (some (V.str one)) : Option (Option V)) = some (some (V.str one)) ∧ (some (some (V.ref pa)) : Option (Option V)) = some (some (V.ref pa)) ∧ (some (some (V.ref m)) : Option (Option V)) = some (some (V.ref m)) ∧ (some (some (V.ref d12)) : Option (Option V)) = some (some (V.ref d12)) ∧ (some (some (V.ref D14)) : Option (Option V)) = some (some (V.ref D14)) ∧ (some (some (V.ref d16)) : Option (Option V)) = some (some (V.ref d16)) ∧ Gx a F.S H12 H' ∧
                    ∃ g, FairAt a H' F g ∧ g.Ok ∧ DA.Final g.m g.s ∧ SameF one f g := fun v17 H' gg => ⟨rfl, rfl, rfl, rfl, rfl, rfl, rfl, rfl, g12s.trans gg.to, _, M18.gr gg, ok16, F16, sg'⟩
                -- if had in tuple(true_lists[one]) + (None,)
                dsimp only [gName]
                refine tIfS_via2 (Gr a H18) (inV (optS (hd16 one)) (strV (f.ls one) ++ [V.non])) (fun Q' hQ => ?_) (fun H20 g20 => ?_)
                · refine ⟨_, rfl, _, rfl, _, rfl, d16, _, rfl, dget_w (.inl h16') hA, lp one, _, rfl, ptl.sq, by show 1 ≤ sizeLine; decide, fun t19 n19 => ?_⟩
                  have g19 : Gr a H18 (upd H18 t19 (.tup [V.non])) := Gx.new n19
                  have fl : (strV (f.ls one) ++ [V.non]).all flatV = true := by rw [List.all_append, strV_flat]; rfl
                  have test : ∀ (q : Addr) H', Gr a H18 H' → SqT K H' q (strV (f.ls one) ++ [V.non]) → rIn K false (optS (hd16 one)) (.ref q) H' fun x H1 => ∃ k, x = .bl k ∧ Q' k H1 := fun q H' gq hq =>
                    ⟨q, _, rfl, .inr hq, by cases hd16 one <;> rfl, fl, _, rfl, hQ H' gq⟩
                  refine ⟨lp one, t19, _, _, rfl, rfl, (ptl.gr g19).sq, SqT.of upd_same, ?_, fun e => ?_, (fun _ z => by cases z), fun hne _ p np => ?_⟩
                  · have : sizeLine = 16777216 := sizeLine_eq
                    have := (ok.wl one).2
                    rw [strV_len]
                    show _ + 1 ≤ _
                    omega
                  · exact test t19 _ g19 (SqT.of (by rw [e, upd_same]; rfl))
                  · exact test p _ (g19.trans (Gx.new np)) (SqT.of upd_same)
                · cases inV (optS (hd16 one)) (strV (f.ls one) ++ [V.non]) with
                  | false => exact iteF (fin4 _ _ g20)
                  | true =>
                    refine iteT ?_
                    have h16'' := Gr.dk g20 h16'
                    have h12t := Gr.dk g20 h12''
                    have ptl' := ptl.gr g20
                    have ll : (f.ls one).length ≤ 1000 := by have := (ok.wl one).2; omega
                    refine ⟨_, rfl, _, rfl, d16, _, rfl, dget_w (.inl h16'') hA, _, rfl, lp one, f.ls one, hd16 one, rfl, ptl', ll, ?_⟩
                    refine ⟨_, rfl, _, rfl, d16, _, rfl, dget_w (.inl h16'') hA, _, rfl, _, rfl, d12, _, rfl, dget_w (f := fun y => optS (f.hd y)) (.inl h12t) ymem, lp one, f.ls one, f.hd one, rfl, ptl', ll, _, _, rfl, rfl, _, rfl, ?_⟩
                    have hlaw : ¬ placeS (f.ls one) (hd16 one) < placeS (f.ls one) (f.hd one) := fair_law (g := { g.tell one lo with nx := nx16, hd := hd16 }) ok Ff F16 sg'
                    rw [show decide (((placeS (f.ls one) (hd16 one) : Nat) : Int) < ((placeS (f.ls one) (f.hd one) : Nat) : Int)) = false from decide_eq_false (by omega)]
                    exact iteF (fin4 _ _ g20)
            · rintro σ' H14 ⟨hsl14, q2, q9, q11, q12, q14, q16, g14, nx14, hd14, M14, ok14, F14⟩
              refine fin2 σ' H14 ⟨hsl14, q9, q11, g14.lst hRL12 sRL, ptS hpa12 g14, g14.tb tb12, fun hne => ?_⟩
              refine MM12.deed T M12 M14 g14 (fun z => hne ?_) rfl
              have := pA.length_eq
              rw [z] at this
              exact List.eq_nil_of_length_eq_zero this
        · refine ⟨_, rfl, pa, _, rfl, .inr hpa8.sq, ((ya.length : Nat) : Int), by show [V.int ((strV ya).length : Nat)] = _; rw [strV_len], by omega, by omega, ?_⟩
          rw [Int.toNat_natCast]
          refine for_range (lo := 0) (n := ya.length) (fun i σ' H' => σ'.length = 19 ∧ σ'[2]? = some (some (V.ref F.p)) ∧ σ'[9]? = some (some (V.ref pa)) ∧ σ'[10]? = some (some (V.ref pr)) ∧ σ'[11]? = some (some (V.ref m)) ∧ σ'[12]? = some (some (V.ref d12)) ∧ Gr a H8 H') ⟨rfl, rfl, rfl, rfl, rfl, rfl, Gx.refl⟩ ?_ (fun σ' H' h => fin σ' H' h)
          rintro i σ' H9 hi ⟨hsl9, q2, q9, q10, q11, q12, g9⟩
          obtain ⟨w0, w1, w2, w3, w4, w5, w6, w7, w8, w9, w10, w11, w12, w13, w14, w15, w16, w17, w18, rfl⟩ := list19 hsl9
          have e2 : w2 = some (V.ref F.p) := Option.some.inj q2
          have e9 : w9 = some (V.ref pa) := Option.some.inj q9
          have e10 : w10 = some (V.ref pr) := Option.some.inj q10
          have e11 : w11 = some (V.ref m) := Option.some.inj q11
          have e12 : w12 = some (V.ref d12) := Option.some.inj q12
          subst e2; subst e9; subst e10; subst e11; subst e12
          dsimp only [gName]
          refine ⟨_, rfl, _, rfl, m, L, O, S, i, by rw [Int.zero_add]; rfl, MM8.gr g9, wf, by omega, g9.tb tb8, fun H10 g10 => ?_⟩
          refine ⟨rfl, _, rfl, ?_⟩
          refine iteF ?_
          exact ⟨rfl, rfl, rfl, rfl, rfl, rfl, g9.trans g10⟩
      · obtain ⟨dd0, dd1, dd2, eD3⟩ := id L3.d
        refine ⟨_, rfl, D, 6, rfl, L3.d, by decide, by decide, fun r H4 hr4 d4 g4 => ?_⟩
        refine ⟨_, _, rfl, rfl, ((2 + r : Nat) : Int), by show [V.int (2 + ((r : Nat) : Int))] = [V.int ((2 + r : Nat) : Int)]; rw [Int.natCast_add]; rfl, by omega, by omega, ?_⟩
        rw [Int.toNat_natCast]
        have SD : ∀ {H H' : Hp}, Gx a [D] H H' → Gx a (D :: F.S) H H' := fun g => g.mono fun b hb => by rw [List.mem_singleton.mp hb]; simp
        have SF : ∀ {H H' : Hp}, Gx a F.S H H' → Gx a (D :: F.S) H H' := fun g => g.mono fun b hb => by simp [hb]
        refine for_range (lo := 0) (n := 2 + r) (fun j σ' H' => σ'.length = 19 ∧ σ'[1]? = some (some (V.ref D)) ∧ σ'[2]? = some (some (V.ref F.p)) ∧ Gx a (D :: F.S) H3 H' ∧ ∃ f, LawF a H' F f D) ⟨rfl, rfl, rfl, SD g4, _, L3.roll hDS g4 d4⟩ ?_ (fun σ' H' h => fin σ' H' h)
        rintro j σ' H5 hj ⟨hsl5, hs1, hs2, g5, f, L5⟩
        obtain ⟨w0, w1, w2, w3, w4, w5, w6, w7, w8, w9, w10, w11, w12, w13, w14, w15, w16, w17, w18, rfl⟩ := list19 hsl5
        have e1 : w1 = some (V.ref D) := Option.some.inj hs1
        have e2 : w2 = some (V.ref F.p) := Option.some.inj hs2
        subst e1; subst e2
        dsimp only [gName]
        -- one, room = ('abc'[..], 'xy'[..])
        refine ⟨_, rfl, D, 3, rfl, L5.d, by decide, by decide, fun r1 H6 hr6 d6 g6 => ?_⟩
        refine char_at abc_len (by decide) hr6 fun one hone => ?_
        have L6 := L5.roll hDS g6 d6
        refine ⟨_, rfl, D, 2, rfl, L6.d, by decide, by decide, fun r2 H7 hr7 d7 g7 => ?_⟩
        refine char_at xy_len (by decide) hr7 fun room hroom => ?_
        have L7 := L6.roll hDS g7 d7
        refine ⟨_, _, rfl, ?_⟩
        -- order, rows, count = (..)
        refine ⟨_, rfl, D, ("xy" : Str), rfl, L7.d, by decide +kernel, xy_nd, fun t1 H8 l1 pt1 nd1 le1 sb1 d8 g8 => ?_⟩
        have L8 := L7.roll hDS g8 d8
        refine ⟨_, rfl, D, ("abc" : Str), rfl, L8.d, by decide +kernel, abc_nd, fun t2 H9 l2 pt2 nd2 le2 sb2 d9 g9 => ?_⟩
        have L9 := L8.roll hDS g9 d9
        have pt1 := L8.d.pt g9 pt1
        refine ⟨_, rfl, D, 3, rfl, L9.d, by decide, by decide, fun cn H10 hcn d10 g10 => ?_⟩
        have L10 := L9.roll hDS g10 d10
        have pt1 := L9.d.pt g10 pt1
        have pt2 := L9.d.pt g10 pt2
        refine ⟨_, _, _, rfl, ?_⟩
        refine ⟨_, rfl, D, 2, rfl, L10.d, by decide, by decide, fun r5 H11 hr11 d11 g11 => ?_⟩
        have L11 := L10.roll hDS g11 d11
        have pt1 := L10.d.pt g11 pt1
        have pt2 := L10.d.pt g11 pt2
        have g35 : Gx a (D :: F.S) H3 H11 := g5.trans (SD (g6.trans (g7.trans (g8.trans (g9.trans (g10.trans g11))))))
        refine ⟨rfl, _, rfl, ?_⟩
        obtain ⟨n11, hp11⟩ := L11.M.ins
        cases hb : decide (V.int (r5 : Nat) = V.int 0) with
        | true =>
          refine iteT ?_
          obtain ⟨lp, hl11, hlp⟩ := L11.M.l
          obtain ⟨o1, q1, s1⟩ := dget_in (k := one) hl11
          refine ⟨_, rfl, _, rfl, F.p, a.cF, F.dx, _, _, rfl, hp11, T.cl_F, T.n_F_lists, ff_lists, F.dl, o1, rfl, q1, _, rfl, ?_⟩
          rw [s1]
          by_cases hA : one ∈ f.As
          · rw [decide_eq_true hA]
            refine iteT ?_
            refine ⟨_, rfl, F.p, F.dx, _, rfl, hp11, ff_un (by decide +kernel), _, rfl, _, rfl, F, f, one, t1, l1, rfl, L11.M, L11.ok, L11.fin, hA, pt1, ⟨nd1, le1⟩, fun z hz => xy_ok z (sb1 z hz), fun v12 H12 nx12 hd12 M12 ok12 F12 g12 => ?_⟩
            refine ⟨rfl, rfl, rfl, g35.trans (SF g12), _, L11.deed hDS M12 ok12 F12 g12 (fun z hz => ?_) L11.sr⟩
            rcases mem_addS.mp hz with h | h
            · exact L11.sa z h
            · rw [h]; exact hone
          · rw [decide_eq_false hA]
            refine iteF ?_
            have lA : f.As.length < 10 := by
              have := sub_len (List.nodup_cons.mpr ⟨hA, L11.ok.nA⟩) abc_nd (fun z hz => (List.mem_cons.mp hz).elim (fun e => by rw [e]; exact hone) (L11.sa z))
              rw [abc_len, List.length_cons] at this
              omega
            refine ⟨_, rfl, F.p, F.dx, _, rfl, hp11, ff_un (by decide +kernel), _, rfl, _, rfl, F, f, one, t1, l1, rfl, L11.M, L11.ok, L11.fin, hA, pt1, ⟨nd1, le1⟩, fun z hz => xy_ok z (sb1 z hz), abc_ok one hone, lA, fun v12 H12 nx12 hd12 M12 ok12 F12 g12 => ?_⟩
            refine ⟨rfl, rfl, rfl, g35.trans (SF g12), _, L11.deed hDS M12 ok12 F12 g12 (fun z hz => ?_) L11.sr⟩
            rcases mem_addS.mp hz with h | h
            · exact L11.sa z h
            · rw [h]; exact hone
        | false =>
          refine iteF ?_
          obtain ⟨rp, hr11', hrp⟩ := L11.M.o
          obtain ⟨o1, q1, s1⟩ := dget_in (k := room) hr11'
          refine ⟨_, rfl, _, rfl, F.p, a.cF, F.dx, _, _, rfl, hp11, T.cl_F, T.n_F_orders, ff_orders, F.dr, o1, rfl, q1, _, rfl, ?_⟩
          rw [s1]
          by_cases hR : room ∈ f.Rs
          · rw [decide_eq_true hR]
            refine iteT ?_
            refine ⟨_, rfl, F.p, F.dx, _, rfl, hp11, ff_un (by decide +kernel), _, rfl, _, rfl, _, rfl, F, f, room, t2, l2, cn, rfl, L11.M, L11.ok, L11.fin, hR, pt2, ⟨nd2, le2⟩, fun v12 H12 nx12 hd12 M12 ok12 F12 g12 => ?_⟩
            refine ⟨rfl, rfl, rfl, g35.trans (SF g12), _, L11.deed hDS M12 ok12 F12 g12 L11.sa (fun z hz => ?_)⟩
            rcases mem_addS.mp hz with h | h
            · exact L11.sr z h
            · rw [h]; exact hroom
          · rw [decide_eq_false hR]
            refine iteF ?_
            have lR : f.Rs.length < 2 := by
              have := sub_len (List.nodup_cons.mpr ⟨hR, L11.ok.nR⟩) xy_nd (fun z hz => (List.mem_cons.mp hz).elim (fun e => by rw [e]; exact hroom) (L11.sr z))
              rw [xy_len, List.length_cons] at this
              omega
            refine ⟨_, rfl, F.p, F.dx, _, rfl, hp11, ff_un (by decide +kernel), _, rfl, _, rfl, _, rfl, F, f, room, t2, l2, cn, rfl, L11.M, L11.ok, L11.fin, hR, pt2, ⟨nd2, le2⟩, lR, fun v12 H12 nx12 hd12 M12 ok12 F12 g12 => ?_⟩
            refine ⟨rfl, rfl, rfl, g35.trans (SF g12), _, L11.deed hDS M12 ok12 F12 g12 L11.sa (fun z hz => ?_)⟩
            rcases mem_addS.mp hz with h | h
            · exact L11.sr z h
            · rw [h]; exact hroom
    · rintro σ H2 _
      exact k H2
end
end K6

/-! ## KEnd -/
set_option maxRecDepth 100000
set_option maxHeartbeats 4000000
/-! The head's facts by names, the law's promise at the head's heap. -/
namespace K6
open PySem PySem.Spec PyProof.Rows L2
def fa0 : List He.Fa := [.cls "Wish", .mkr "Wish", .glo "Wish", .noat "Wish" "order", .noat "Wish" "ranks", .cls "Market", .mkr "Market", .glo "Market", .noat "Market" "askers", .noat "Market" "rooms", .noat "Market" "seats", .cls "Asking", .mkr "Asking", .glo "Asking", .noat "Asking" "market", .noat "Asking" "next", .noat "Asking" "held", .noat "Asking" "steps", .cls "Fair", .mkr "Fair", .glo "Fair", .noat "Fair" "lists", .noat "Fair" "orders", .noat "Fair" "seats", .noat "Fair" "held", .noat "Fair" "next", .noat "Fair" "asks", .meth "Wish" "has", .meth "Wish" "rank", .meth "Wish" "better"]
def fa1 : List He.Fa := [.meth "Wish" "worst", .glo "check_list", .glo "all_lists", .meth "Market" "size", .meth "Market" "with_list", .glo "those_in", .meth "Asking" "wants", .meth "Asking" "ask", .meth "Asking" "go_on", .glo "ask_all", .glo "reached", .glo "best_lie", .glo "lists_of_lot", .glo "lot_lie", .glo "check_words", .meth "Fair" "likes", .meth "Fair" "those_in", .meth "Fair" "match", .meth "Fair" "ask", .meth "Fair" "who_waits", .meth "Fair" "go_on", .meth "Fair" "part_of", .meth "Fair" "ask_anew", .meth "Fair" "told", .meth "Fair" "come", .meth "Fair" "wish", .meth "Fair" "open_room", .meth "Fair" "set_room", .meth "Fair" "change_room", .meth "Fair" "names"]
def fa2 : List He.Fa := [.meth "Fair" "as_market", .glo "_law_dice", .glo "_law_roll", .glo "_law_rounds", .glo "_law_place", .glo "_law_words", .glo "law", .free "len", .free "tuple", .free "dict", .free "any", .free "all", .free "range", .free "max", .free "sorted", .free "list", .free "enumerate", .free "abs", .free "int"]
def faA : List He.Fa := fa0 ++ fa1 ++ fa2
def D_W_init : He.DefD := ⟨("Wish", some "__init__"), "__init__", "Wish.__init__", defArgs s_W_init, defBody s_W_init, defScope s_W_init, [], []⟩
def D_W_has : He.DefD := ⟨("Wish", some "has"), "has", "Wish.has", defArgs s_W_has, defBody s_W_has, defScope s_W_has, [], []⟩
def D_W_rank : He.DefD := ⟨("Wish", some "rank"), "rank", "Wish.rank", defArgs s_W_rank, defBody s_W_rank, defScope s_W_rank, [], []⟩
def D_W_better : He.DefD := ⟨("Wish", some "better"), "better", "Wish.better", defArgs s_W_better, defBody s_W_better, defScope s_W_better, [], []⟩
def D_W_worst : He.DefD := ⟨("Wish", some "worst"), "worst", "Wish.worst", defArgs s_W_worst, defBody s_W_worst, defScope s_W_worst, [], []⟩
def D_g_check_list : He.DefD := ⟨("check_list", none), "check_list", "check_list", defArgs s_g_check_list, defBody s_g_check_list, defScope s_g_check_list, [], []⟩
def D_g_all_lists : He.DefD := ⟨("all_lists", none), "all_lists", "all_lists", defArgs s_g_all_lists, defBody s_g_all_lists, defScope s_g_all_lists, [], []⟩
def D_M_init : He.DefD := ⟨("Market", some "__init__"), "__init__", "Market.__init__", defArgs s_M_init, defBody s_M_init, defScope s_M_init, [], []⟩
def D_M_size : He.DefD := ⟨("Market", some "size"), "size", "Market.size", defArgs s_M_size, defBody s_M_size, defScope s_M_size, [], []⟩
def D_M_with_list : He.DefD := ⟨("Market", some "with_list"), "with_list", "Market.with_list", defArgs s_M_with_list, defBody s_M_with_list, defScope s_M_with_list, [], []⟩
def D_g_those_in : He.DefD := ⟨("those_in", none), "those_in", "those_in", defArgs s_g_those_in, defBody s_g_those_in, defScope s_g_those_in, [], []⟩
def D_A_init : He.DefD := ⟨("Asking", some "__init__"), "__init__", "Asking.__init__", defArgs s_A_init, defBody s_A_init, defScope s_A_init, [], []⟩
def D_A_wants : He.DefD := ⟨("Asking", some "wants"), "wants", "Asking.wants", defArgs s_A_wants, defBody s_A_wants, defScope s_A_wants, [], []⟩
def D_A_ask : He.DefD := ⟨("Asking", some "ask"), "ask", "Asking.ask", defArgs s_A_ask, defBody s_A_ask, defScope s_A_ask, [], []⟩
def D_A_go_on : He.DefD := ⟨("Asking", some "go_on"), "go_on", "Asking.go_on", defArgs s_A_go_on, defBody s_A_go_on, defScope s_A_go_on, [], []⟩
def D_g_ask_all : He.DefD := ⟨("ask_all", none), "ask_all", "ask_all", defArgs s_g_ask_all, defBody s_g_ask_all, defScope s_g_ask_all, [], []⟩
def D_g_reached : He.DefD := ⟨("reached", none), "reached", "reached", defArgs s_g_reached, defBody s_g_reached, defScope s_g_reached, [], []⟩
def D_g_best_lie : He.DefD := ⟨("best_lie", none), "best_lie", "best_lie", defArgs s_g_best_lie, defBody s_g_best_lie, defScope s_g_best_lie, [], []⟩
def D_g_lists_of_lot : He.DefD := ⟨("lists_of_lot", none), "lists_of_lot", "lists_of_lot", defArgs s_g_lists_of_lot, defBody s_g_lists_of_lot, defScope s_g_lists_of_lot, [], []⟩
def D_g_lot_lie : He.DefD := ⟨("lot_lie", none), "lot_lie", "lot_lie", defArgs s_g_lot_lie, defBody s_g_lot_lie, defScope s_g_lot_lie, [], []⟩
def D_g_check_words : He.DefD := ⟨("check_words", none), "check_words", "check_words", defArgs s_g_check_words, defBody s_g_check_words, defScope s_g_check_words, [], []⟩
def D_F_init : He.DefD := ⟨("Fair", some "__init__"), "__init__", "Fair.__init__", defArgs s_F_init, defBody s_F_init, defScope s_F_init, [], []⟩
def D_F_likes : He.DefD := ⟨("Fair", some "likes"), "likes", "Fair.likes", defArgs s_F_likes, defBody s_F_likes, defScope s_F_likes, [], []⟩
def D_F_those_in : He.DefD := ⟨("Fair", some "those_in"), "those_in", "Fair.those_in", defArgs s_F_those_in, defBody s_F_those_in, defScope s_F_those_in, [], []⟩
def D_F_match : He.DefD := ⟨("Fair", some "match"), "match", "Fair.match", defArgs s_F_match, defBody s_F_match, defScope s_F_match, [], []⟩
def D_F_ask : He.DefD := ⟨("Fair", some "ask"), "ask", "Fair.ask", defArgs s_F_ask, defBody s_F_ask, defScope s_F_ask, [], []⟩
def D_F_who_waits : He.DefD := ⟨("Fair", some "who_waits"), "who_waits", "Fair.who_waits", defArgs s_F_who_waits, defBody s_F_who_waits, defScope s_F_who_waits, [], []⟩
def D_F_go_on : He.DefD := ⟨("Fair", some "go_on"), "go_on", "Fair.go_on", defArgs s_F_go_on, defBody s_F_go_on, defScope s_F_go_on, [], []⟩
def D_F_part_of : He.DefD := ⟨("Fair", some "part_of"), "part_of", "Fair.part_of", defArgs s_F_part_of, defBody s_F_part_of, defScope s_F_part_of, [], []⟩
def D_F_ask_anew : He.DefD := ⟨("Fair", some "ask_anew"), "ask_anew", "Fair.ask_anew", defArgs s_F_ask_anew, defBody s_F_ask_anew, defScope s_F_ask_anew, [], []⟩
def D_F_told : He.DefD := ⟨("Fair", some "told"), "told", "Fair.told", defArgs s_F_told, defBody s_F_told, defScope s_F_told, [], []⟩
def D_F_come : He.DefD := ⟨("Fair", some "come"), "come", "Fair.come", defArgs s_F_come, defBody s_F_come, defScope s_F_come, [], []⟩
def D_F_wish : He.DefD := ⟨("Fair", some "wish"), "wish", "Fair.wish", defArgs s_F_wish, defBody s_F_wish, defScope s_F_wish, [], []⟩
def D_F_open_room : He.DefD := ⟨("Fair", some "open_room"), "open_room", "Fair.open_room", defArgs s_F_open_room, defBody s_F_open_room, defScope s_F_open_room, [], []⟩
def D_F_set_room : He.DefD := ⟨("Fair", some "set_room"), "set_room", "Fair.set_room", defArgs s_F_set_room, defBody s_F_set_room, defScope s_F_set_room, [], []⟩
def D_F_change_room : He.DefD := ⟨("Fair", some "change_room"), "change_room", "Fair.change_room", defArgs s_F_change_room, defBody s_F_change_room, defScope s_F_change_room, [], []⟩
def D_F_names : He.DefD := ⟨("Fair", some "names"), "names", "Fair.names", defArgs s_F_names, defBody s_F_names, defScope s_F_names, [], []⟩
def D_F_as_market : He.DefD := ⟨("Fair", some "as_market"), "as_market", "Fair.as_market", defArgs s_F_as_market, defBody s_F_as_market, defScope s_F_as_market, [], []⟩
def D_g_law_dice : He.DefD := ⟨("_law_dice", none), "_law_dice", "_law_dice", defArgs s_g_law_dice, defBody s_g_law_dice, defScope s_g_law_dice, [], []⟩
def D_g_law_roll : He.DefD := ⟨("_law_roll", none), "_law_roll", "_law_roll", defArgs s_g_law_roll, defBody s_g_law_roll, defScope s_g_law_roll, [], []⟩
def D_g_law_rounds : He.DefD := ⟨("_law_rounds", none), "_law_rounds", "_law_rounds", defArgs s_g_law_rounds, defBody s_g_law_rounds, defScope s_g_law_rounds, [], []⟩
def D_g_law_place : He.DefD := ⟨("_law_place", none), "_law_place", "_law_place", defArgs s_g_law_place, defBody s_g_law_place, defScope s_g_law_place, [], []⟩
def D_g_law_words : He.DefD := ⟨("_law_words", none), "_law_words", "_law_words", defArgs s_g_law_words, defBody s_g_law_words, defScope s_g_law_words, [], []⟩
def D_g_law : He.DefD := ⟨("law", none), "law", "law", defArgs s_g_law, defBody s_g_law, defScope s_g_law, [], []⟩
def fn0 : List He.DefD := [D_W_init, D_W_has, D_W_rank, D_W_better, D_W_worst, D_g_check_list, D_g_all_lists, D_M_init, D_M_size, D_M_with_list, D_g_those_in, D_A_init, D_A_wants, D_A_ask, D_A_go_on, D_g_ask_all, D_g_reached, D_g_best_lie, D_g_lists_of_lot, D_g_lot_lie, D_g_check_words, D_F_init, D_F_likes, D_F_those_in, D_F_match]
def fn1 : List He.DefD := [D_F_ask, D_F_who_waits, D_F_go_on, D_F_part_of, D_F_ask_anew, D_F_told, D_F_come, D_F_wish, D_F_open_room, D_F_set_room, D_F_change_room, D_F_names, D_F_as_market, D_g_law_dice, D_g_law_roll, D_g_law_rounds, D_g_law_place, D_g_law_words, D_g_law]
def fnA : List He.DefD := fn0 ++ fn1
abbrev T1 : He.Defn := ("check_list", none)
abbrev T2 : He.Defn := ("Market", some "__init__")
abbrev T3 : He.Defn := ("lot_lie", none)
abbrev T4 : He.Defn := ("Wish", some "worst")
def tfA : List He.Defn := [T1, T2, T3, T4]
def exA (K : PySem.W.Frag) : Bool := decide (He.ga K "Market" ≠ He.ga K "Wish") && (decide (He.ga K "Asking" ≠ He.ga K "Wish") && (decide (He.ga K "Asking" ≠ He.ga K "Market") && (decide (He.ga K "Fair" ≠ He.ga K "Wish") && (decide (He.ga K "Fair" ≠ He.ga K "Market") && (decide ((He.cT K T4).2 ≠ (He.cT K T1).2) && (decide ((He.cT K T4).2 ≠ (He.cT K T2).2) && (decide ((He.cT K T4).2 ≠ (He.cT K T3).2))))))))
theorem fun_of {K : PySem.W.Frag} {x qual : Str} {st : Stmt} {f : Addr} {fd : FuncData} (F : FunD K x qual (defArgs st) (defBody st) (defScope st) [] [] f fd) : Fun K x qual st f fd := by
  obtain ⟨⟨oc, od, dV, kV, doc, pm, an, cdv, ct, osl, e, lk, hc, hd, _⟩, kp⟩ := F
  rcases hd with ⟨_, rfl⟩ | ⟨z, _⟩
  · exact ⟨⟨oc, od, kV, doc, pm, an, cdv, ct, osl, e, lk, hc⟩, kp⟩
  · exact absurd rfl z
theorem func_of {K : PySem.W.Frag} {x qual : Str} {st : Stmt} {p : He.Defn} {fd : FuncData} (F : FunD K x qual (defArgs st) (defBody st) (defScope st) [] [] (He.fAd K p) fd) : FunC K x qual st (He.fAd K p) fd (He.cT K p).1 := by
  obtain ⟨⟨oc, od, dV, kV, doc, pm, an, cdv, ct, osl, e, lk, hc, hd, _⟩, kp⟩ := F
  rcases hd with ⟨_, rfl⟩ | ⟨z, _⟩
  · obtain ⟨c, rfl⟩ := He.codeIn_ref hc
    have ec : He.codeOf K p = c := He.codeOf_eq lk (by rw [e] <;> rfl)
    have e1 : (He.cT K p).1 = c := ec
    rw [e1]
    exact ⟨⟨oc, od, kV, doc, pm, an, ct, osl, e, lk, hc⟩, kp⟩
  · exact absurd rfl z
theorem bind_law {K : PySem.W.Frag} {f : Addr} {fd : FuncData} (F : Fun K "law" "law" s_g_law f fd) (s : Shared) (u : Value) : BindsTo s fd ⟨[u], []⟩ [("_law_script", u)] := by
  obtain ⟨oc, od, kV, doc, pm, an, cdv, ct, osl, rfl, lk, hc⟩ := F.ex
  exact .of_eq rfl
theorem law_at {l : PySem.W.OpenLaw} {w : World} {K : PySem.W.Frag} {h : Heap} {mg : Str → Option Value} {fa : Addr} (X : K.In h) (G : h.Ns mainGlobals mg) (hfa : mg ("law" : Str) = some (.ref fa)) (c : He.SaysX faA fnA [] tfA exA w h K) :
    LamX.LawAtS l w K CX0 9 63 "_law_script" mg fa h := by
  have d := c.t.d
  obtain ⟨d_W_init, G_W_init⟩ := d.def_ 0 (d := D_W_init) rfl
  have F_W_init : Fun K "__init__" "Wish.__init__" s_W_init (He.ma K (He.ga K "Wish") "__init__") d_W_init := fun_of G_W_init
  obtain ⟨d_W_has, G_W_has⟩ := d.def_ 1 (d := D_W_has) rfl
  have F_W_has : Fun K "has" "Wish.has" s_W_has (He.ma K (He.ga K "Wish") "has") d_W_has := fun_of G_W_has
  obtain ⟨d_W_rank, G_W_rank⟩ := d.def_ 2 (d := D_W_rank) rfl
  have F_W_rank : Fun K "rank" "Wish.rank" s_W_rank (He.ma K (He.ga K "Wish") "rank") d_W_rank := fun_of G_W_rank
  obtain ⟨d_W_better, G_W_better⟩ := d.def_ 3 (d := D_W_better) rfl
  have F_W_better : Fun K "better" "Wish.better" s_W_better (He.ma K (He.ga K "Wish") "better") d_W_better := fun_of G_W_better
  obtain ⟨d_W_worst, G_W_worst⟩ := d.def_ 4 (d := D_W_worst) rfl
  have F_W_worst : FunC K "worst" "Wish.worst" s_W_worst (He.fAd K T4) d_W_worst (He.cT K T4).1 := func_of G_W_worst
  obtain ⟨d_g_check_list, G_g_check_list⟩ := d.def_ 5 (d := D_g_check_list) rfl
  have F_g_check_list : FunC K "check_list" "check_list" s_g_check_list (He.fAd K T1) d_g_check_list (He.cT K T1).1 := func_of G_g_check_list
  obtain ⟨d_g_all_lists, G_g_all_lists⟩ := d.def_ 6 (d := D_g_all_lists) rfl
  have F_g_all_lists : Fun K "all_lists" "all_lists" s_g_all_lists (He.ga K "all_lists") d_g_all_lists := fun_of G_g_all_lists
  obtain ⟨d_M_init, G_M_init⟩ := d.def_ 7 (d := D_M_init) rfl
  have F_M_init : FunC K "__init__" "Market.__init__" s_M_init (He.fAd K T2) d_M_init (He.cT K T2).1 := func_of G_M_init
  obtain ⟨d_M_size, G_M_size⟩ := d.def_ 8 (d := D_M_size) rfl
  have F_M_size : Fun K "size" "Market.size" s_M_size (He.ma K (He.ga K "Market") "size") d_M_size := fun_of G_M_size
  obtain ⟨d_M_with_list, G_M_with_list⟩ := d.def_ 9 (d := D_M_with_list) rfl
  have F_M_with_list : Fun K "with_list" "Market.with_list" s_M_with_list (He.ma K (He.ga K "Market") "with_list") d_M_with_list := fun_of G_M_with_list
  obtain ⟨d_g_those_in, G_g_those_in⟩ := d.def_ 10 (d := D_g_those_in) rfl
  have F_g_those_in : Fun K "those_in" "those_in" s_g_those_in (He.ga K "those_in") d_g_those_in := fun_of G_g_those_in
  obtain ⟨d_A_init, G_A_init⟩ := d.def_ 11 (d := D_A_init) rfl
  have F_A_init : Fun K "__init__" "Asking.__init__" s_A_init (He.ma K (He.ga K "Asking") "__init__") d_A_init := fun_of G_A_init
  obtain ⟨d_A_wants, G_A_wants⟩ := d.def_ 12 (d := D_A_wants) rfl
  have F_A_wants : Fun K "wants" "Asking.wants" s_A_wants (He.ma K (He.ga K "Asking") "wants") d_A_wants := fun_of G_A_wants
  obtain ⟨d_A_ask, G_A_ask⟩ := d.def_ 13 (d := D_A_ask) rfl
  have F_A_ask : Fun K "ask" "Asking.ask" s_A_ask (He.ma K (He.ga K "Asking") "ask") d_A_ask := fun_of G_A_ask
  obtain ⟨d_A_go_on, G_A_go_on⟩ := d.def_ 14 (d := D_A_go_on) rfl
  have F_A_go_on : Fun K "go_on" "Asking.go_on" s_A_go_on (He.ma K (He.ga K "Asking") "go_on") d_A_go_on := fun_of G_A_go_on
  obtain ⟨d_g_ask_all, G_g_ask_all⟩ := d.def_ 15 (d := D_g_ask_all) rfl
  have F_g_ask_all : Fun K "ask_all" "ask_all" s_g_ask_all (He.ga K "ask_all") d_g_ask_all := fun_of G_g_ask_all
  obtain ⟨d_g_reached, G_g_reached⟩ := d.def_ 16 (d := D_g_reached) rfl
  have F_g_reached : Fun K "reached" "reached" s_g_reached (He.ga K "reached") d_g_reached := fun_of G_g_reached
  obtain ⟨d_g_best_lie, G_g_best_lie⟩ := d.def_ 17 (d := D_g_best_lie) rfl
  have F_g_best_lie : Fun K "best_lie" "best_lie" s_g_best_lie (He.ga K "best_lie") d_g_best_lie := fun_of G_g_best_lie
  obtain ⟨d_g_lists_of_lot, G_g_lists_of_lot⟩ := d.def_ 18 (d := D_g_lists_of_lot) rfl
  have F_g_lists_of_lot : Fun K "lists_of_lot" "lists_of_lot" s_g_lists_of_lot (He.ga K "lists_of_lot") d_g_lists_of_lot := fun_of G_g_lists_of_lot
  obtain ⟨d_g_lot_lie, G_g_lot_lie⟩ := d.def_ 19 (d := D_g_lot_lie) rfl
  have F_g_lot_lie : FunC K "lot_lie" "lot_lie" s_g_lot_lie (He.fAd K T3) d_g_lot_lie (He.cT K T3).1 := func_of G_g_lot_lie
  obtain ⟨d_g_check_words, G_g_check_words⟩ := d.def_ 20 (d := D_g_check_words) rfl
  have F_g_check_words : Fun K "check_words" "check_words" s_g_check_words (He.ga K "check_words") d_g_check_words := fun_of G_g_check_words
  obtain ⟨d_F_init, G_F_init⟩ := d.def_ 21 (d := D_F_init) rfl
  have F_F_init : Fun K "__init__" "Fair.__init__" s_F_init (He.ma K (He.ga K "Fair") "__init__") d_F_init := fun_of G_F_init
  obtain ⟨d_F_likes, G_F_likes⟩ := d.def_ 22 (d := D_F_likes) rfl
  have F_F_likes : Fun K "likes" "Fair.likes" s_F_likes (He.ma K (He.ga K "Fair") "likes") d_F_likes := fun_of G_F_likes
  obtain ⟨d_F_those_in, G_F_those_in⟩ := d.def_ 23 (d := D_F_those_in) rfl
  have F_F_those_in : Fun K "those_in" "Fair.those_in" s_F_those_in (He.ma K (He.ga K "Fair") "those_in") d_F_those_in := fun_of G_F_those_in
  obtain ⟨d_F_match, G_F_match⟩ := d.def_ 24 (d := D_F_match) rfl
  have F_F_match : Fun K "match" "Fair.match" s_F_match (He.ma K (He.ga K "Fair") "match") d_F_match := fun_of G_F_match
  obtain ⟨d_F_ask, G_F_ask⟩ := d.def_ 25 (d := D_F_ask) rfl
  have F_F_ask : Fun K "ask" "Fair.ask" s_F_ask (He.ma K (He.ga K "Fair") "ask") d_F_ask := fun_of G_F_ask
  obtain ⟨d_F_who_waits, G_F_who_waits⟩ := d.def_ 26 (d := D_F_who_waits) rfl
  have F_F_who_waits : Fun K "who_waits" "Fair.who_waits" s_F_who_waits (He.ma K (He.ga K "Fair") "who_waits") d_F_who_waits := fun_of G_F_who_waits
  obtain ⟨d_F_go_on, G_F_go_on⟩ := d.def_ 27 (d := D_F_go_on) rfl
  have F_F_go_on : Fun K "go_on" "Fair.go_on" s_F_go_on (He.ma K (He.ga K "Fair") "go_on") d_F_go_on := fun_of G_F_go_on
  obtain ⟨d_F_part_of, G_F_part_of⟩ := d.def_ 28 (d := D_F_part_of) rfl
  have F_F_part_of : Fun K "part_of" "Fair.part_of" s_F_part_of (He.ma K (He.ga K "Fair") "part_of") d_F_part_of := fun_of G_F_part_of
  obtain ⟨d_F_ask_anew, G_F_ask_anew⟩ := d.def_ 29 (d := D_F_ask_anew) rfl
  have F_F_ask_anew : Fun K "ask_anew" "Fair.ask_anew" s_F_ask_anew (He.ma K (He.ga K "Fair") "ask_anew") d_F_ask_anew := fun_of G_F_ask_anew
  obtain ⟨d_F_told, G_F_told⟩ := d.def_ 30 (d := D_F_told) rfl
  have F_F_told : Fun K "told" "Fair.told" s_F_told (He.ma K (He.ga K "Fair") "told") d_F_told := fun_of G_F_told
  obtain ⟨d_F_come, G_F_come⟩ := d.def_ 31 (d := D_F_come) rfl
  have F_F_come : Fun K "come" "Fair.come" s_F_come (He.ma K (He.ga K "Fair") "come") d_F_come := fun_of G_F_come
  obtain ⟨d_F_wish, G_F_wish⟩ := d.def_ 32 (d := D_F_wish) rfl
  have F_F_wish : Fun K "wish" "Fair.wish" s_F_wish (He.ma K (He.ga K "Fair") "wish") d_F_wish := fun_of G_F_wish
  obtain ⟨d_F_open_room, G_F_open_room⟩ := d.def_ 33 (d := D_F_open_room) rfl
  have F_F_open_room : Fun K "open_room" "Fair.open_room" s_F_open_room (He.ma K (He.ga K "Fair") "open_room") d_F_open_room := fun_of G_F_open_room
  obtain ⟨d_F_set_room, G_F_set_room⟩ := d.def_ 34 (d := D_F_set_room) rfl
  have F_F_set_room : Fun K "set_room" "Fair.set_room" s_F_set_room (He.ma K (He.ga K "Fair") "set_room") d_F_set_room := fun_of G_F_set_room
  obtain ⟨d_F_change_room, G_F_change_room⟩ := d.def_ 35 (d := D_F_change_room) rfl
  have F_F_change_room : Fun K "change_room" "Fair.change_room" s_F_change_room (He.ma K (He.ga K "Fair") "change_room") d_F_change_room := fun_of G_F_change_room
  obtain ⟨d_F_names, G_F_names⟩ := d.def_ 36 (d := D_F_names) rfl
  have F_F_names : Fun K "names" "Fair.names" s_F_names (He.ma K (He.ga K "Fair") "names") d_F_names := fun_of G_F_names
  obtain ⟨d_F_as_market, G_F_as_market⟩ := d.def_ 37 (d := D_F_as_market) rfl
  have F_F_as_market : Fun K "as_market" "Fair.as_market" s_F_as_market (He.ma K (He.ga K "Fair") "as_market") d_F_as_market := fun_of G_F_as_market
  obtain ⟨d_g_law_dice, G_g_law_dice⟩ := d.def_ 38 (d := D_g_law_dice) rfl
  have F_g_law_dice : Fun K "_law_dice" "_law_dice" s_g_law_dice (He.ga K "_law_dice") d_g_law_dice := fun_of G_g_law_dice
  obtain ⟨d_g_law_roll, G_g_law_roll⟩ := d.def_ 39 (d := D_g_law_roll) rfl
  have F_g_law_roll : Fun K "_law_roll" "_law_roll" s_g_law_roll (He.ga K "_law_roll") d_g_law_roll := fun_of G_g_law_roll
  obtain ⟨d_g_law_rounds, G_g_law_rounds⟩ := d.def_ 40 (d := D_g_law_rounds) rfl
  have F_g_law_rounds : Fun K "_law_rounds" "_law_rounds" s_g_law_rounds (He.ga K "_law_rounds") d_g_law_rounds := fun_of G_g_law_rounds
  obtain ⟨d_g_law_place, G_g_law_place⟩ := d.def_ 41 (d := D_g_law_place) rfl
  have F_g_law_place : Fun K "_law_place" "_law_place" s_g_law_place (He.ga K "_law_place") d_g_law_place := fun_of G_g_law_place
  obtain ⟨d_g_law_words, G_g_law_words⟩ := d.def_ 42 (d := D_g_law_words) rfl
  have F_g_law_words : Fun K "_law_words" "_law_words" s_g_law_words (He.ga K "_law_words") d_g_law_words := fun_of G_g_law_words
  obtain ⟨d_g_law, G_g_law⟩ := d.def_ 43 (d := D_g_law) rfl
  have F_g_law : Fun K "law" "law" s_g_law (He.ga K "law") d_g_law := fun_of G_g_law
  obtain ⟨x1, xr⟩ := He.ba (show exA K = true from c.more)
  obtain ⟨x2, xr⟩ := He.ba xr
  obtain ⟨x3, xr⟩ := He.ba xr
  obtain ⟨x4, xr⟩ := He.ba xr
  obtain ⟨x5, xr⟩ := He.ba xr
  obtain ⟨x6, xr⟩ := He.ba xr
  obtain ⟨x7, xr⟩ := He.ba xr
  have hlaw := hfa.symm.trans (He.glo_ok X G (d.fact 66 (f := .glo "law") rfl))
  cases hlaw
  refine ⟨d_g_law, tfA.map (He.cT K), spLaw K { cW := He.ga K "Wish", cM := He.ga K "Market", cA := He.ga K "Asking", cF := He.ga K "Fair", f_W_init := He.ma K (He.ga K "Wish") "__init__", d_W_init := d_W_init, f_W_has := He.ma K (He.ga K "Wish") "has", d_W_has := d_W_has, f_W_rank := He.ma K (He.ga K "Wish") "rank", d_W_rank := d_W_rank, f_W_better := He.ma K (He.ga K "Wish") "better", d_W_better := d_W_better, f_W_worst := He.ma K (He.ga K "Wish") "worst", d_W_worst := d_W_worst, f_g_check_list := He.ga K "check_list", d_g_check_list := d_g_check_list, f_g_all_lists := He.ga K "all_lists", d_g_all_lists := d_g_all_lists, f_M_init := He.ma K (He.ga K "Market") "__init__", d_M_init := d_M_init, f_M_size := He.ma K (He.ga K "Market") "size", d_M_size := d_M_size, f_M_with_list := He.ma K (He.ga K "Market") "with_list", d_M_with_list := d_M_with_list, f_g_those_in := He.ga K "those_in", d_g_those_in := d_g_those_in, f_A_init := He.ma K (He.ga K "Asking") "__init__", d_A_init := d_A_init, f_A_wants := He.ma K (He.ga K "Asking") "wants", d_A_wants := d_A_wants, f_A_ask := He.ma K (He.ga K "Asking") "ask", d_A_ask := d_A_ask, f_A_go_on := He.ma K (He.ga K "Asking") "go_on", d_A_go_on := d_A_go_on, f_g_ask_all := He.ga K "ask_all", d_g_ask_all := d_g_ask_all, f_g_reached := He.ga K "reached", d_g_reached := d_g_reached, f_g_best_lie := He.ga K "best_lie", d_g_best_lie := d_g_best_lie, f_g_lists_of_lot := He.ga K "lists_of_lot", d_g_lists_of_lot := d_g_lists_of_lot, f_g_lot_lie := He.ga K "lot_lie", d_g_lot_lie := d_g_lot_lie, f_g_check_words := He.ga K "check_words", d_g_check_words := d_g_check_words, f_F_init := He.ma K (He.ga K "Fair") "__init__", d_F_init := d_F_init, f_F_likes := He.ma K (He.ga K "Fair") "likes", d_F_likes := d_F_likes, f_F_those_in := He.ma K (He.ga K "Fair") "those_in", d_F_those_in := d_F_those_in, f_F_match := He.ma K (He.ga K "Fair") "match", d_F_match := d_F_match, f_F_ask := He.ma K (He.ga K "Fair") "ask", d_F_ask := d_F_ask, f_F_who_waits := He.ma K (He.ga K "Fair") "who_waits", d_F_who_waits := d_F_who_waits, f_F_go_on := He.ma K (He.ga K "Fair") "go_on", d_F_go_on := d_F_go_on, f_F_part_of := He.ma K (He.ga K "Fair") "part_of", d_F_part_of := d_F_part_of, f_F_ask_anew := He.ma K (He.ga K "Fair") "ask_anew", d_F_ask_anew := d_F_ask_anew, f_F_told := He.ma K (He.ga K "Fair") "told", d_F_told := d_F_told, f_F_come := He.ma K (He.ga K "Fair") "come", d_F_come := d_F_come, f_F_wish := He.ma K (He.ga K "Fair") "wish", d_F_wish := d_F_wish, f_F_open_room := He.ma K (He.ga K "Fair") "open_room", d_F_open_room := d_F_open_room, f_F_set_room := He.ma K (He.ga K "Fair") "set_room", d_F_set_room := d_F_set_room, f_F_change_room := He.ma K (He.ga K "Fair") "change_room", d_F_change_room := d_F_change_room, f_F_names := He.ma K (He.ga K "Fair") "names", d_F_names := d_F_names, f_F_as_market := He.ma K (He.ga K "Fair") "as_market", d_F_as_market := d_F_as_market, f_g_law_dice := He.ga K "_law_dice", d_g_law_dice := d_g_law_dice, f_g_law_roll := He.ga K "_law_roll", d_g_law_roll := d_g_law_roll, f_g_law_rounds := He.ga K "_law_rounds", d_g_law_rounds := d_g_law_rounds, f_g_law_place := He.ga K "_law_place", d_g_law_place := d_g_law_place, f_g_law_words := He.ga K "_law_words", d_g_law_words := d_g_law_words, f_g_law := He.ga K "law", d_g_law := d_g_law, k1 := (He.cT K T1).1, p1 := (He.cT K T1).2, k2 := (He.cT K T2).1, p2 := (He.cT K T2).2, k3 := (He.cT K T3).1, p3 := (He.cT K T3).2, k4 := (He.cT K T4).1, p4 := (He.cT K T4).2 }, fun p hp => ?_, fun p hp => ?_, fun p hp => ?_, bind_law F_g_law, fun H s ns hl hb hT hS => ?_, fun base KX BX TB => ?_⟩
  · obtain ⟨t, ht, rfl⟩ := List.mem_map.mp hp
    exact c.empty t ht
  · obtain ⟨t, ht, rfl⟩ := List.mem_map.mp hp
    exact c.out t ht
  · obtain ⟨t, ht, rfl⟩ := List.mem_map.mp hp
    exact PySem.W.codeHd_of_K X (c.hd t ht)
  · have tg : ∀ t, t ∈ tfA → H (He.cT K t).2 = some (.tbl #[]) := fun t ht => hT _ (List.mem_map.mpr ⟨t, ht, rfl⟩)
    refine ⟨s, ns, rfl, hS, ⟨⟨#[], tg T1 (by simp [tfA]), ?_⟩, ⟨#[], tg T2 (by simp [tfA]), ?_⟩, ⟨#[], tg T3 (by simp [tfA]), ?_⟩, ⟨#[], tg T4 (by simp [tfA]), ?_, fun p cv z => ?_⟩⟩, fun _ => rfl⟩
    · exact trivial
    · exact trivial
    · exact trivial
    · exact trivial
    · cases z
  · have tb : ∀ t, t ∈ tfA → LamX.TabB base mg (He.cT K t).1 (He.cT K t).2 := fun t ht => TB _ (List.mem_map.mpr ⟨t, ht, rfl⟩)
    have t1 := tb T1 (by simp [tfA])
    have t2 := tb T2 (by simp [tfA])
    have t3 := tb T3 (by simp [tfA])
    have t4 := tb T4 (by simp [tfA])
    refine ok_law (a := { cW := He.ga K "Wish", cM := He.ga K "Market", cA := He.ga K "Asking", cF := He.ga K "Fair", f_W_init := He.ma K (He.ga K "Wish") "__init__", d_W_init := d_W_init, f_W_has := He.ma K (He.ga K "Wish") "has", d_W_has := d_W_has, f_W_rank := He.ma K (He.ga K "Wish") "rank", d_W_rank := d_W_rank, f_W_better := He.ma K (He.ga K "Wish") "better", d_W_better := d_W_better, f_W_worst := He.ma K (He.ga K "Wish") "worst", d_W_worst := d_W_worst, f_g_check_list := He.ga K "check_list", d_g_check_list := d_g_check_list, f_g_all_lists := He.ga K "all_lists", d_g_all_lists := d_g_all_lists, f_M_init := He.ma K (He.ga K "Market") "__init__", d_M_init := d_M_init, f_M_size := He.ma K (He.ga K "Market") "size", d_M_size := d_M_size, f_M_with_list := He.ma K (He.ga K "Market") "with_list", d_M_with_list := d_M_with_list, f_g_those_in := He.ga K "those_in", d_g_those_in := d_g_those_in, f_A_init := He.ma K (He.ga K "Asking") "__init__", d_A_init := d_A_init, f_A_wants := He.ma K (He.ga K "Asking") "wants", d_A_wants := d_A_wants, f_A_ask := He.ma K (He.ga K "Asking") "ask", d_A_ask := d_A_ask, f_A_go_on := He.ma K (He.ga K "Asking") "go_on", d_A_go_on := d_A_go_on, f_g_ask_all := He.ga K "ask_all", d_g_ask_all := d_g_ask_all, f_g_reached := He.ga K "reached", d_g_reached := d_g_reached, f_g_best_lie := He.ga K "best_lie", d_g_best_lie := d_g_best_lie, f_g_lists_of_lot := He.ga K "lists_of_lot", d_g_lists_of_lot := d_g_lists_of_lot, f_g_lot_lie := He.ga K "lot_lie", d_g_lot_lie := d_g_lot_lie, f_g_check_words := He.ga K "check_words", d_g_check_words := d_g_check_words, f_F_init := He.ma K (He.ga K "Fair") "__init__", d_F_init := d_F_init, f_F_likes := He.ma K (He.ga K "Fair") "likes", d_F_likes := d_F_likes, f_F_those_in := He.ma K (He.ga K "Fair") "those_in", d_F_those_in := d_F_those_in, f_F_match := He.ma K (He.ga K "Fair") "match", d_F_match := d_F_match, f_F_ask := He.ma K (He.ga K "Fair") "ask", d_F_ask := d_F_ask, f_F_who_waits := He.ma K (He.ga K "Fair") "who_waits", d_F_who_waits := d_F_who_waits, f_F_go_on := He.ma K (He.ga K "Fair") "go_on", d_F_go_on := d_F_go_on, f_F_part_of := He.ma K (He.ga K "Fair") "part_of", d_F_part_of := d_F_part_of, f_F_ask_anew := He.ma K (He.ga K "Fair") "ask_anew", d_F_ask_anew := d_F_ask_anew, f_F_told := He.ma K (He.ga K "Fair") "told", d_F_told := d_F_told, f_F_come := He.ma K (He.ga K "Fair") "come", d_F_come := d_F_come, f_F_wish := He.ma K (He.ga K "Fair") "wish", d_F_wish := d_F_wish, f_F_open_room := He.ma K (He.ga K "Fair") "open_room", d_F_open_room := d_F_open_room, f_F_set_room := He.ma K (He.ga K "Fair") "set_room", d_F_set_room := d_F_set_room, f_F_change_room := He.ma K (He.ga K "Fair") "change_room", d_F_change_room := d_F_change_room, f_F_names := He.ma K (He.ga K "Fair") "names", d_F_names := d_F_names, f_F_as_market := He.ma K (He.ga K "Fair") "as_market", d_F_as_market := d_F_as_market, f_g_law_dice := He.ga K "_law_dice", d_g_law_dice := d_g_law_dice, f_g_law_roll := He.ga K "_law_roll", d_g_law_roll := d_g_law_roll, f_g_law_rounds := He.ga K "_law_rounds", d_g_law_rounds := d_g_law_rounds, f_g_law_place := He.ga K "_law_place", d_g_law_place := d_g_law_place, f_g_law_words := He.ga K "_law_words", d_g_law_words := d_g_law_words, f_g_law := He.ga K "law", d_g_law := d_g_law, k1 := (He.cT K T1).1, p1 := (He.cT K T1).2, k2 := (He.cT K T2).1, p2 := (He.cT K T2).2, k3 := (He.cT K T3).1, p3 := (He.cT K T3).2, k4 := (He.cT K T4).1, p4 := (He.cT K T4).2 }) ?_
    exact {
      cl_W := He.cls_ok (d.fact 0 (f := .cls "Wish") rfl)
      mk_W := He.mkr_ok (d.fact 1 (f := .mkr "Wish") rfl)
      gc_W := He.glo_ok X G (d.fact 2 (f := .glo "Wish") rfl)
      n_W_order := He.noat_ok (d.fact 3 (f := .noat "Wish" "order") rfl)
      n_W_ranks := He.noat_ok (d.fact 4 (f := .noat "Wish" "ranks") rfl)
      cl_M := He.cls_ok (d.fact 5 (f := .cls "Market") rfl)
      mk_M := He.mkr_ok (d.fact 6 (f := .mkr "Market") rfl)
      gc_M := He.glo_ok X G (d.fact 7 (f := .glo "Market") rfl)
      n_M_askers := He.noat_ok (d.fact 8 (f := .noat "Market" "askers") rfl)
      n_M_rooms := He.noat_ok (d.fact 9 (f := .noat "Market" "rooms") rfl)
      n_M_seats := He.noat_ok (d.fact 10 (f := .noat "Market" "seats") rfl)
      cl_A := He.cls_ok (d.fact 11 (f := .cls "Asking") rfl)
      mk_A := He.mkr_ok (d.fact 12 (f := .mkr "Asking") rfl)
      gc_A := He.glo_ok X G (d.fact 13 (f := .glo "Asking") rfl)
      n_A_market := He.noat_ok (d.fact 14 (f := .noat "Asking" "market") rfl)
      n_A_next := He.noat_ok (d.fact 15 (f := .noat "Asking" "next") rfl)
      n_A_held := He.noat_ok (d.fact 16 (f := .noat "Asking" "held") rfl)
      n_A_steps := He.noat_ok (d.fact 17 (f := .noat "Asking" "steps") rfl)
      cl_F := He.cls_ok (d.fact 18 (f := .cls "Fair") rfl)
      mk_F := He.mkr_ok (d.fact 19 (f := .mkr "Fair") rfl)
      gc_F := He.glo_ok X G (d.fact 20 (f := .glo "Fair") rfl)
      n_F_lists := He.noat_ok (d.fact 21 (f := .noat "Fair" "lists") rfl)
      n_F_orders := He.noat_ok (d.fact 22 (f := .noat "Fair" "orders") rfl)
      n_F_seats := He.noat_ok (d.fact 23 (f := .noat "Fair" "seats") rfl)
      n_F_held := He.noat_ok (d.fact 24 (f := .noat "Fair" "held") rfl)
      n_F_next := He.noat_ok (d.fact 25 (f := .noat "Fair" "next") rfl)
      n_F_asks := He.noat_ok (d.fact 26 (f := .noat "Fair" "asks") rfl)
      F_W_init := F_W_init
      b_W_init := F_W_init.binds (ps := ["self", "order"]) fun _ _ _ _ _ _ us hl => match us, hl with | [_, _], _ => rfl
      F_W_has := F_W_has
      b_W_has := F_W_has.binds (ps := ["self", "one"]) fun _ _ _ _ _ _ us hl => match us, hl with | [_, _], _ => rfl
      m_W_has := He.meth_ok (d.fact 27 (f := .meth "Wish" "has") rfl)
      F_W_rank := F_W_rank
      b_W_rank := F_W_rank.binds (ps := ["self", "one"]) fun _ _ _ _ _ _ us hl => match us, hl with | [_, _], _ => rfl
      m_W_rank := He.meth_ok (d.fact 28 (f := .meth "Wish" "rank") rfl)
      F_W_better := F_W_better
      b_W_better := F_W_better.binds (ps := ["self", "one", "other"]) fun _ _ _ _ _ _ us hl => match us, hl with | [_, _, _], _ => rfl
      m_W_better := He.meth_ok (d.fact 29 (f := .meth "Wish" "better") rfl)
      F_W_worst := F_W_worst
      b_W_worst := F_W_worst.binds (ps := ["self", "ones"]) fun _ _ _ _ _ _ us hl => match us, hl with | [_, _], _ => rfl
      m_W_worst := He.meth_ok (d.fact 30 (f := .meth "Wish" "worst") rfl)
      F_g_check_list := F_g_check_list
      b_g_check_list := F_g_check_list.binds (ps := ["order", "many"]) fun _ _ _ _ _ _ us hl => match us, hl with | [_, _], _ => rfl
      g_g_check_list := He.glo_ok X G (d.fact 31 (f := .glo "check_list") rfl)
      F_g_all_lists := F_g_all_lists
      b_g_all_lists := F_g_all_lists.binds (ps := ["many"]) fun _ _ _ _ _ _ us hl => match us, hl with | [_], _ => rfl
      g_g_all_lists := He.glo_ok X G (d.fact 32 (f := .glo "all_lists") rfl)
      F_M_init := F_M_init
      b_M_init := F_M_init.binds (ps := ["self", "lists", "orders", "seats"]) fun _ _ _ _ _ _ us hl => match us, hl with | [_, _, _, _], _ => rfl
      F_M_size := F_M_size
      b_M_size := F_M_size.binds (ps := ["self"]) fun _ _ _ _ _ _ us hl => match us, hl with | [_], _ => rfl
      m_M_size := He.meth_ok (d.fact 33 (f := .meth "Market" "size") rfl)
      F_M_with_list := F_M_with_list
      b_M_with_list := F_M_with_list.binds (ps := ["self", "asker", "order"]) fun _ _ _ _ _ _ us hl => match us, hl with | [_, _, _], _ => rfl
      m_M_with_list := He.meth_ok (d.fact 34 (f := .meth "Market" "with_list") rfl)
      F_g_those_in := F_g_those_in
      b_g_those_in := F_g_those_in.binds (ps := ["match", "room"]) fun _ _ _ _ _ _ us hl => match us, hl with | [_, _], _ => rfl
      g_g_those_in := He.glo_ok X G (d.fact 35 (f := .glo "those_in") rfl)
      F_A_init := F_A_init
      b_A_init := F_A_init.binds (ps := ["self", "market"]) fun _ _ _ _ _ _ us hl => match us, hl with | [_, _], _ => rfl
      F_A_wants := F_A_wants
      b_A_wants := F_A_wants.binds (ps := ["self", "asker"]) fun _ _ _ _ _ _ us hl => match us, hl with | [_, _], _ => rfl
      m_A_wants := He.meth_ok (d.fact 36 (f := .meth "Asking" "wants") rfl)
      F_A_ask := F_A_ask
      b_A_ask := F_A_ask.binds (ps := ["self", "asker"]) fun _ _ _ _ _ _ us hl => match us, hl with | [_, _], _ => rfl
      m_A_ask := He.meth_ok (d.fact 37 (f := .meth "Asking" "ask") rfl)
      F_A_go_on := F_A_go_on
      b_A_go_on := F_A_go_on.binds (ps := ["self"]) fun _ _ _ _ _ _ us hl => match us, hl with | [_], _ => rfl
      m_A_go_on := He.meth_ok (d.fact 38 (f := .meth "Asking" "go_on") rfl)
      F_g_ask_all := F_g_ask_all
      b_g_ask_all := F_g_ask_all.binds (ps := ["market"]) fun _ _ _ _ _ _ us hl => match us, hl with | [_], _ => rfl
      g_g_ask_all := He.glo_ok X G (d.fact 39 (f := .glo "ask_all") rfl)
      F_g_reached := F_g_reached
      b_g_reached := F_g_reached.binds (ps := ["market", "asker"]) fun _ _ _ _ _ _ us hl => match us, hl with | [_, _], _ => rfl
      g_g_reached := He.glo_ok X G (d.fact 40 (f := .glo "reached") rfl)
      F_g_best_lie := F_g_best_lie
      b_g_best_lie := F_g_best_lie.binds (ps := ["market", "asker"]) fun _ _ _ _ _ _ us hl => match us, hl with | [_, _], _ => rfl
      g_g_best_lie := He.glo_ok X G (d.fact 41 (f := .glo "best_lie") rfl)
      F_g_lists_of_lot := F_g_lists_of_lot
      b_g_lists_of_lot := F_g_lists_of_lot.binds (ps := ["market", "lot"]) fun _ _ _ _ _ _ us hl => match us, hl with | [_, _], _ => rfl
      g_g_lists_of_lot := He.glo_ok X G (d.fact 42 (f := .glo "lists_of_lot") rfl)
      F_g_lot_lie := F_g_lot_lie
      b_g_lot_lie := F_g_lot_lie.binds (ps := ["market", "lot"]) fun _ _ _ _ _ _ us hl => match us, hl with | [_, _], _ => rfl
      g_g_lot_lie := He.glo_ok X G (d.fact 43 (f := .glo "lot_lie") rfl)
      F_g_check_words := F_g_check_words
      b_g_check_words := F_g_check_words.binds (ps := ["words"]) fun _ _ _ _ _ _ us hl => match us, hl with | [_], _ => rfl
      g_g_check_words := He.glo_ok X G (d.fact 44 (f := .glo "check_words") rfl)
      F_F_init := F_F_init
      b_F_init := F_F_init.binds (ps := ["self"]) fun _ _ _ _ _ _ us hl => match us, hl with | [_], _ => rfl
      F_F_likes := F_F_likes
      b_F_likes := F_F_likes.binds (ps := ["self", "asker", "room"]) fun _ _ _ _ _ _ us hl => match us, hl with | [_, _, _], _ => rfl
      m_F_likes := He.meth_ok (d.fact 45 (f := .meth "Fair" "likes") rfl)
      F_F_those_in := F_F_those_in
      b_F_those_in := F_F_those_in.binds (ps := ["self", "room"]) fun _ _ _ _ _ _ us hl => match us, hl with | [_, _], _ => rfl
      m_F_those_in := He.meth_ok (d.fact 46 (f := .meth "Fair" "those_in") rfl)
      F_F_match := F_F_match
      b_F_match := F_F_match.binds (ps := ["self"]) fun _ _ _ _ _ _ us hl => match us, hl with | [_], _ => rfl
      m_F_match := He.meth_ok (d.fact 47 (f := .meth "Fair" "match") rfl)
      F_F_ask := F_F_ask
      b_F_ask := F_F_ask.binds (ps := ["self", "asker"]) fun _ _ _ _ _ _ us hl => match us, hl with | [_, _], _ => rfl
      m_F_ask := He.meth_ok (d.fact 48 (f := .meth "Fair" "ask") rfl)
      F_F_who_waits := F_F_who_waits
      b_F_who_waits := F_F_who_waits.binds (ps := ["self"]) fun _ _ _ _ _ _ us hl => match us, hl with | [_], _ => rfl
      m_F_who_waits := He.meth_ok (d.fact 49 (f := .meth "Fair" "who_waits") rfl)
      F_F_go_on := F_F_go_on
      b_F_go_on := F_F_go_on.binds (ps := ["self"]) fun _ _ _ _ _ _ us hl => match us, hl with | [_], _ => rfl
      m_F_go_on := He.meth_ok (d.fact 50 (f := .meth "Fair" "go_on") rfl)
      F_F_part_of := F_F_part_of
      b_F_part_of := F_F_part_of.binds (ps := ["self", "askers", "rooms"]) fun _ _ _ _ _ _ us hl => match us, hl with | [_, _, _], _ => rfl
      m_F_part_of := He.meth_ok (d.fact 51 (f := .meth "Fair" "part_of") rfl)
      F_F_ask_anew := F_F_ask_anew
      b_F_ask_anew := F_F_ask_anew.binds (ps := ["self", "askers"]) fun _ _ _ _ _ _ us hl => match us, hl with | [_, _], _ => rfl
      m_F_ask_anew := He.meth_ok (d.fact 52 (f := .meth "Fair" "ask_anew") rfl)
      F_F_told := F_F_told
      b_F_told := F_F_told.binds (ps := ["self", "before"]) fun _ _ _ _ _ _ us hl => match us, hl with | [_, _], _ => rfl
      m_F_told := He.meth_ok (d.fact 53 (f := .meth "Fair" "told") rfl)
      F_F_come := F_F_come
      b_F_come := F_F_come.binds (ps := ["self", "asker", "rooms"]) fun _ _ _ _ _ _ us hl => match us, hl with | [_, _, _], _ => rfl
      m_F_come := He.meth_ok (d.fact 54 (f := .meth "Fair" "come") rfl)
      F_F_wish := F_F_wish
      b_F_wish := F_F_wish.binds (ps := ["self", "asker", "rooms"]) fun _ _ _ _ _ _ us hl => match us, hl with | [_, _, _], _ => rfl
      m_F_wish := He.meth_ok (d.fact 55 (f := .meth "Fair" "wish") rfl)
      F_F_open_room := F_F_open_room
      b_F_open_room := F_F_open_room.binds (ps := ["self", "room", "askers", "count"]) fun _ _ _ _ _ _ us hl => match us, hl with | [_, _, _, _], _ => rfl
      m_F_open_room := He.meth_ok (d.fact 56 (f := .meth "Fair" "open_room") rfl)
      F_F_set_room := F_F_set_room
      b_F_set_room := F_F_set_room.binds (ps := ["self", "room", "askers", "count"]) fun _ _ _ _ _ _ us hl => match us, hl with | [_, _, _, _], _ => rfl
      m_F_set_room := He.meth_ok (d.fact 57 (f := .meth "Fair" "set_room") rfl)
      F_F_change_room := F_F_change_room
      b_F_change_room := F_F_change_room.binds (ps := ["self", "room", "askers", "count"]) fun _ _ _ _ _ _ us hl => match us, hl with | [_, _, _, _], _ => rfl
      m_F_change_room := He.meth_ok (d.fact 58 (f := .meth "Fair" "change_room") rfl)
      F_F_names := F_F_names
      b_F_names := F_F_names.binds (ps := ["self"]) fun _ _ _ _ _ _ us hl => match us, hl with | [_], _ => rfl
      m_F_names := He.meth_ok (d.fact 59 (f := .meth "Fair" "names") rfl)
      F_F_as_market := F_F_as_market
      b_F_as_market := F_F_as_market.binds (ps := ["self"]) fun _ _ _ _ _ _ us hl => match us, hl with | [_], _ => rfl
      m_F_as_market := He.meth_ok (d.fact 60 (f := .meth "Fair" "as_market") rfl)
      F_g_law_dice := F_g_law_dice
      b_g_law_dice := F_g_law_dice.binds (ps := ["_law_cell"]) fun _ _ _ _ _ _ us hl => match us, hl with | [_], _ => rfl
      g_g_law_dice := He.glo_ok X G (d.fact 61 (f := .glo "_law_dice") rfl)
      F_g_law_roll := F_g_law_roll
      b_g_law_roll := F_g_law_roll.binds (ps := ["_law_dice_here", "_law_many"]) fun _ _ _ _ _ _ us hl => match us, hl with | [_, _], _ => rfl
      g_g_law_roll := He.glo_ok X G (d.fact 62 (f := .glo "_law_roll") rfl)
      F_g_law_rounds := F_g_law_rounds
      b_g_law_rounds := F_g_law_rounds.binds (ps := ["_law_script", "_law_most_now"]) fun _ _ _ _ _ _ us hl => match us, hl with | [_, _], _ => rfl
      g_g_law_rounds := He.glo_ok X G (d.fact 63 (f := .glo "_law_rounds") rfl)
      F_g_law_place := F_g_law_place
      b_g_law_place := F_g_law_place.binds (ps := ["_law_order", "_law_one"]) fun _ _ _ _ _ _ us hl => match us, hl with | [_, _], _ => rfl
      g_g_law_place := He.glo_ok X G (d.fact 64 (f := .glo "_law_place") rfl)
      F_g_law_words := F_g_law_words
      b_g_law_words := F_g_law_words.binds (ps := ["_law_dice_here", "_law_words_here"]) fun _ _ _ _ _ _ us hl => match us, hl with | [_, _], _ => rfl
      g_g_law_words := He.glo_ok X G (d.fact 65 (f := .glo "_law_words") rfl)
      F_g_law := F_g_law
      b_g_law := F_g_law.binds (ps := ["_law_script"]) fun _ _ _ _ _ _ us hl => match us, hl with | [_], _ => rfl
      g_g_law := He.glo_ok X G (d.fact 66 (f := .glo "law") rfl)
      z_len := He.free_ok X G (d.fact 67 (f := .free "len") rfl)
      z_tuple := He.free_ok X G (d.fact 68 (f := .free "tuple") rfl)
      z_dict := He.free_ok X G (d.fact 69 (f := .free "dict") rfl)
      z_any := He.free_ok X G (d.fact 70 (f := .free "any") rfl)
      z_all := He.free_ok X G (d.fact 71 (f := .free "all") rfl)
      z_range := He.free_ok X G (d.fact 72 (f := .free "range") rfl)
      z_max := He.free_ok X G (d.fact 73 (f := .free "max") rfl)
      z_sorted := He.free_ok X G (d.fact 74 (f := .free "sorted") rfl)
      z_list := He.free_ok X G (d.fact 75 (f := .free "list") rfl)
      z_enumerate := He.free_ok X G (d.fact 76 (f := .free "enumerate") rfl)
      z_abs := He.free_ok X G (d.fact 77 (f := .free "abs") rfl)
      z_int := He.free_ok X G (d.fact 78 (f := .free "int") rfl)
      t1 := ⟨t1.code, t1.bm, t1.gP⟩
      t2 := ⟨t2.code, t2.bm, t2.gP⟩
      t3 := ⟨t3.code, t3.bm, t3.gP⟩
      t4 := t4
      ne_WM := of_decide_eq_true x1
      ne_WA := of_decide_eq_true x2
      ne_MA := of_decide_eq_true x3
      ne_FW := of_decide_eq_true x4
      ne_FM := of_decide_eq_true x5
      p41 := of_decide_eq_true x6
      p42 := of_decide_eq_true x7
      p43 := of_decide_eq_true xr }
end K6

/-! ## KTop -/
open PySem PySem.W PyProof.Rows in
set_option maxRecDepth 100000 in
set_option maxHeartbeats 0 in
theorem PySem.Challenge.cw_pairmart_k61_whole_no_lie_helps_on_any_d_holds : PySem.Challenge.rw_pairmart_k61_whole_no_lie_helps_on_any_d.Holds := by
  w_on; o_law; o_head (He.hookX 5 K6.faA K6.fnA [] K6.tfA K6.exA); (case hw => w_witness2)
  k_fill
  refine LamX.walk_ofTsE (n := 63) (k := 9) (x := "_law_script") (CX := fun _ => L2.CX0) rfl (by decide) rfl ⟨rfl, by decide, by decide⟩ ?F (fun _ _ _ _ _ z => z)
  case F =>
    intro w mg fa h Y G hmg
    obtain ⟨K, KX, c⟩ := Y
    exact ⟨K, KX, K6.law_at KX G hmg c⟩
