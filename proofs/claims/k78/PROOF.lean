import PyProof.Rows.All
import Wide.All
import OpenK.AllK
import Wide.FinOn
import HandS.ForMost
import HandS.Set
import HandS.SetFor
import KE.SortData
import HandS.DictComp
import HandS.Walk
import HandS.Property
import HandS.Style
import HandS.TupAny
import PySem.Challenge.RW_metersure_k78_whole_meters_that_may_be_l
set_option Elab.async false
set_option linter.all false
set_option maxRecDepth 100000
set_option maxHeartbeats 4000000
section
set_option autoImplicit false
/-! Webs of streams: walks, what hangs together, rings. Plain Lean. -/
namespace Ms
structure Sm (N : Type) where
  nm : N
  tl : N
  hd : N
  lo : Int
  hi : Int

section
variable {N : Type} [DecidableEq N]

/-- e joins x and y, whichever way -/
def Jn (e : Sm N) (x y : N) : Prop := (e.tl = x ∧ e.hd = y) ∨ (e.hd = x ∧ e.tl = y)
omit [DecidableEq N] in
theorem Jn.symm {e : Sm N} {x y : N} (h : Jn e x y) : Jn e y x := by
  rcases h with ⟨a, b⟩ | ⟨a, b⟩
  · exact .inr ⟨b, a⟩
  · exact .inl ⟨b, a⟩

/-- a walk along streams whose names are in S; the list: the names in turn -/
inductive Wk (G : List (Sm N)) (S : N → Prop) : List N → N → N → Prop
  | nil (x : N) : Wk G S [] x x
  | cons {e : Sm N} {x y z : N} {ns : List N} : e ∈ G → S e.nm → Jn e x y → Wk G S ns y z → Wk G S (e.nm :: ns) x z

/-- x and y hang together by the streams whose names are in S -/
def Rch (G : List (Sm N)) (S : N → Prop) (x y : N) : Prop := ∃ ns, Wk G S ns x y

omit [DecidableEq N]
variable {G : List (Sm N)} {S T : N → Prop} {x y z : N} {ns ms : List N}

theorem Wk.append (h : Wk G S ns x y) (k : Wk G S ms y z) : Wk G S (ns ++ ms) x z := by
  induction h with
  | nil x => exact k
  | cons he hs hj _ ih => exact .cons he hs hj (ih k)
theorem Wk.mono (h : Wk G S ns x y) (k : ∀ n, n ∈ ns → S n → T n) : Wk G T ns x y := by
  induction h with
  | nil x => exact .nil x
  | cons he hs hj _ ih => exact .cons he (k _ List.mem_cons_self hs) hj (ih fun n hn => k n (List.mem_cons_of_mem _ hn))
theorem Wk.all (h : Wk G S ns x y) : ∀ n, n ∈ ns → S n := by
  induction h with
  | nil x => intro n hn; cases hn
  | cons he hs hj _ ih =>
    intro n hn
    rcases List.mem_cons.mp hn with rfl | hn
    · exact hs
    · exact ih n hn
theorem Wk.named (h : Wk G S ns x y) : ∀ n, n ∈ ns → ∃ e ∈ G, e.nm = n := by
  induction h with
  | nil x => intro n hn; cases hn
  | cons he hs hj _ ih =>
    intro n hn
    rcases List.mem_cons.mp hn with rfl | hn
    · exact ⟨_, he, rfl⟩
    · exact ih n hn
theorem Wk.none (h : Wk G S [] x y) : x = y := by
  generalize e : ([] : List N) = l at h
  cases h with
  | nil => rfl
  | cons => cases e
/-- a walk by its own names -/
theorem Wk.own (h : Wk G S ns x y) : Wk G (· ∈ ns) ns x y := h.mono fun _ hn _ => hn
theorem Wk.back (h : Wk G S ns x y) : Wk G S ns.reverse y x := by
  induction h with
  | nil x => exact .nil x
  | cons he hs hj _ ih =>
    rw [List.reverse_cons]
    exact ih.append (.cons he hs hj.symm (.nil _))
/-- a walk cut at one of its names -/
theorem Wk.cut (h : Wk G S ns x y) {c : N} (hc : c ∈ ns) : ∃ p q e u v, ns = p ++ c :: q ∧ e ∈ G ∧ e.nm = c ∧ Jn e u v ∧ Wk G S p x u ∧ Wk G S q v y := by
  induction h with
  | nil x => cases hc
  | @cons e x y z ns he hs hj w ih =>
    by_cases hcn : c ∈ ns
    · obtain ⟨p, q, e', u, v, rfl, he', hn, hj', w1, w2⟩ := ih hcn
      exact ⟨e.nm :: p, q, e', u, v, rfl, he', hn, hj', .cons he hs hj w1, w2⟩
    · rcases List.mem_cons.mp hc with rfl | hc
      · exact ⟨[], ns, e, x, y, rfl, he, rfl, hj, .nil x, w⟩
      · exact absurd hc hcn

theorem Rch.refl (x : N) : Rch G S x x := ⟨[], .nil x⟩
theorem Rch.symm (h : Rch G S x y) : Rch G S y x := let ⟨_, w⟩ := h; ⟨_, w.back⟩
theorem Rch.trans (h : Rch G S x y) (k : Rch G S y z) : Rch G S x z := let ⟨_, w⟩ := h; let ⟨_, v⟩ := k; ⟨_, w.append v⟩
theorem Rch.mono (h : Rch G S x y) (k : ∀ n, S n → T n) : Rch G T x y := let ⟨_, w⟩ := h; ⟨_, w.mono fun n _ => k n⟩
theorem Rch.one {e : Sm N} (he : e ∈ G) (hs : S e.nm) (hj : Jn e x y) : Rch G S x y := ⟨_, .cons he hs hj (.nil _)⟩
/-- induction along what hangs together -/
theorem Rch.ind {P : N → Prop} (h : Rch G S x y) (h0 : P x) (hs : ∀ e ∈ G, S e.nm → ∀ u v, Jn e u v → P u → P v) : P y := by
  obtain ⟨ns, w⟩ := h
  induction w with
  | nil x => exact h0
  | cons he hn hj _ ih => exact ih (hs _ he hn _ _ hj h0)

/-- one stream more -/
theorem Rch.exch {e : Sm N} (he : e ∈ G) (uq : ∀ f ∈ G, f.nm = e.nm → f = e) (h : Rch G (fun n => S n ∨ n = e.nm) x y) :
    Rch G S x y ∨ (Rch G S x e.tl ∧ Rch G S e.hd y) ∨ (Rch G S x e.hd ∧ Rch G S e.tl y) := by
  refine h.ind (P := fun y => Rch G S x y ∨ (Rch G S x e.tl ∧ Rch G S e.hd y) ∨ (Rch G S x e.hd ∧ Rch G S e.tl y)) (.inl (Rch.refl x)) ?_
  intro f hf hn u v hj ih
  by_cases hfe : f = e
  · subst hfe
    rcases hj with ⟨rfl, rfl⟩ | ⟨rfl, rfl⟩
    · rcases ih with k | ⟨k1, k2⟩ | ⟨k1, k2⟩
      · exact .inr (.inl ⟨k, Rch.refl _⟩)
      · exact .inr (.inl ⟨k1, Rch.refl _⟩)
      · exact .inl k1
    · rcases ih with k | ⟨k1, k2⟩ | ⟨k1, k2⟩
      · exact .inr (.inr ⟨k, Rch.refl _⟩)
      · exact .inl k1
      · exact .inr (.inr ⟨k1, Rch.refl _⟩)
  · have hS : S f.nm := by
      rcases hn with hn | hn
      · exact hn
      · exact absurd (uq f hf hn) hfe
    have r : Rch G S u v := Rch.one hf hS hj
    rcases ih with k | ⟨k1, k2⟩ | ⟨k1, k2⟩
    · exact .inl (k.trans r)
    · exact .inr (.inl ⟨k1, k2.trans r⟩)
    · exact .inr (.inr ⟨k1, k2.trans r⟩)
/-- the exchange: what e closes is closed by y for e -/
theorem Rch.swap {e : Sm N} (he : e ∈ G) (uq : ∀ f ∈ G, f.nm = e.nm → f = e) (h : Rch G (fun n => S n ∨ n = e.nm) x y) (hn : ¬ Rch G S x y) {f : Sm N} (hf : f ∈ G) (hj : Jn f x y) :
    Rch G (fun n => S n ∨ n = f.nm) e.tl e.hd := by
  have up : ∀ {u v}, Rch G S u v → Rch G (fun n => S n ∨ n = f.nm) u v := fun k => k.mono fun n hn => .inl hn
  have r : Rch G (fun n => S n ∨ n = f.nm) x y := Rch.one hf (.inr rfl) hj
  rcases h.exch he uq with k | ⟨k1, k2⟩ | ⟨k1, k2⟩
  · exact absurd k hn
  · exact (up k1).symm.trans (r.trans (up k2).symm)
  · exact ((up k1).symm.trans (r.trans (up k2).symm)).symm


/-- no two streams of one name -/
def Uq (G : List (Sm N)) : Prop := ∀ f ∈ G, ∀ g ∈ G, f.nm = g.nm → f = g
/-- leave x for the last time -/
theorem Rch.leave (uq : Uq G) (hxy : x ≠ y) (h : Wk G S ns z y) :
    Rch G (fun n => S n ∧ ∀ f ∈ G, f.nm = n → f.tl ≠ x ∧ f.hd ≠ x) z y ∨
      ∃ e ∈ G, S e.nm ∧ ∃ u, Jn e x u ∧ Rch G (fun n => S n ∧ ∀ f ∈ G, f.nm = n → f.tl ≠ x ∧ f.hd ≠ x) u y := by
  have stuck : ∀ {v}, Rch G (fun n => S n ∧ ∀ f ∈ G, f.nm = n → f.tl ≠ x ∧ f.hd ≠ x) x v → x = v := by
    rintro v ⟨ms, w⟩
    cases w with
    | nil => rfl
    | cons he hs hj _ =>
      have := hs.2 _ he rfl
      rcases hj with ⟨a, _⟩ | ⟨a, _⟩
      · exact absurd a this.1
      · exact absurd a this.2
  induction h with
  | nil y => exact .inl (Rch.refl y)
  | @cons e z z2 y ns he hs hj w ih =>
    rcases ih hxy with k | k
    · by_cases hzx : z = x
      · subst hzx
        exact .inr ⟨e, he, hs, z2, hj, k⟩
      · by_cases hz2 : z2 = x
        · subst hz2
          exact absurd (stuck k) hxy
        · refine .inl ((Rch.one he ⟨hs, fun f hf hn => ?_⟩ hj).trans k)
          obtain rfl := uq f hf e he hn
          rcases hj with ⟨rfl, rfl⟩ | ⟨rfl, rfl⟩
          · exact ⟨hzx, hz2⟩
          · exact ⟨hz2, hzx⟩
    · exact .inr k

theorem filter_lt [DecidableEq N] {a : N} : ∀ {T : List N}, a ∈ T → (T.filter fun b => decide (b ≠ a)).length < T.length
  | t :: T, h => by
    by_cases e : t = a
    · subst e
      rw [List.filter_cons_of_neg (by simp)]
      have := List.length_filter_le (fun b => decide (b ≠ t)) T
      rw [List.length_cons]
      omega
    · rw [List.filter_cons_of_pos (by simpa using e)]
      rcases List.mem_cons.mp h with h | h
      · exact absurd h.symm e
      · have := filter_lt h
        rw [List.length_cons, List.length_cons]
        omega

/-- what hangs together by the names of a list is joined by a walk no longer than the list -/
theorem Rch.short [DecidableEq N] (uq : Uq G) : ∀ (k : Nat) (T : List N), T.length ≤ k → ∀ {x y : N}, Rch G (· ∈ T) x y → ∃ ns, Wk G (· ∈ T) ns x y ∧ ns.length ≤ T.length
  | k, T, hk, x, y, h => by
    by_cases hxy : x = y
    · subst hxy
      exact ⟨[], .nil x, Nat.zero_le _⟩
    · have look : ∃ e ∈ G, e.nm ∈ T ∧ ∃ u, Jn e x u ∧ Rch G (fun n => n ∈ T ∧ ∀ f ∈ G, f.nm = n → f.tl ≠ x ∧ f.hd ≠ x) u y := by
        obtain ⟨ns, w⟩ := h
        rcases Rch.leave uq hxy w with k | k
        · -- nothing at x is used: then x = y
          obtain ⟨ms, w⟩ := k
          cases w with
          | nil => exact absurd rfl hxy
          | cons he hs hj _ =>
            have := hs.2 _ he rfl
            rcases hj with ⟨a, _⟩ | ⟨a, _⟩
            · exact absurd a this.1
            · exact absurd a this.2
        · exact k
      obtain ⟨e, he, hT, u, hj, r⟩ := look
      have hlt := filter_lt hT
      have r' : Rch G (· ∈ T.filter fun b => decide (b ≠ e.nm)) u y := r.mono fun n hn => by
        refine List.mem_filter.mpr ⟨hn.1, ?_⟩
        have : n ≠ e.nm := fun q => by
          have := hn.2 e he q.symm
          rcases hj with ⟨a, _⟩ | ⟨a, _⟩
          · exact this.1 a
          · exact this.2 a
        simpa using this
      match k, hk with
      | 0, hk => exact absurd hlt (by omega)
      | k + 1, hk =>
        obtain ⟨ns, w, hl⟩ := Rch.short uq k _ (by omega) r'
        refine ⟨e.nm :: ns, .cons he hT hj (w.mono fun n _ hn => (List.mem_filter.mp hn).1), ?_⟩
        rw [List.length_cons]
        omega

/-! ### levels -/
/-- levels from goal by the streams in S -/
structure Lv (G : List (Sm N)) (S : N → Prop) (goal : N) (L : N → Option Nat) : Prop where
  base : L goal = some 0
  step : ∀ e ∈ G, S e.nm → ∀ x y l, Jn e x y → L x = some l → ∃ l', L y = some l' ∧ l' ≤ l + 1
  back : ∀ x l, L x = some l → x = goal ∨ ∃ e ∈ G, S e.nm ∧ ∃ y l', Jn e x y ∧ L y = some l' ∧ l' < l
theorem Lv.rch {goal : N} {L : N → Option Nat} (lv : Lv G S goal L) : ∀ (k l : Nat) (x : N), l ≤ k → L x = some l → Rch G S x goal
  | k, l, x, hk, h => by
    rcases lv.back x l h with rfl | ⟨e, he, hs, y, l', hj, hy, hl⟩
    · exact Rch.refl _
    · match k, hk with
      | 0, hk => omega
      | k + 1, hk => exact (Rch.one he hs hj).trans (Lv.rch lv k l' y (by omega) hy)
theorem Lv.le {goal : N} {L : N → Option Nat} (lv : Lv G S goal L) (w : Wk G S ns x y) : ∀ {l}, L x = some l → ∃ l', L y = some l' ∧ l' ≤ l + ns.length := by
  induction w with
  | nil x => intro l h; exact ⟨l, h, Nat.le_refl _⟩
  | cons he hs hj _ ih =>
    intro l h
    obtain ⟨l1, h1, k1⟩ := lv.step _ he hs _ _ l hj h
    obtain ⟨l2, h2, k2⟩ := ih h1
    refine ⟨l2, h2, ?_⟩
    rw [List.length_cons]
    omega
/-- a way down the levels -/
inductive Dn (G : List (Sm N)) (S : N → Prop) (L : N → Option Nat) : List N → N → N → Prop
  | nil (x : N) : Dn G S L [] x x
  | cons {e : Sm N} {x y z : N} {ns : List N} {l l' : Nat} : e ∈ G → S e.nm → Jn e x y → L x = some l → L y = some l' → l' < l → Dn G S L ns y z → Dn G S L (e.nm :: ns) x z
theorem Dn.wk {L : N → Option Nat} (d : Dn G S L ns x y) : Wk G S ns x y := by
  induction d with
  | nil x => exact .nil x
  | cons he hs hj _ _ _ _ ih => exact .cons he hs hj ih
theorem Dn.snoc {L : N → Option Nat} (d : Dn G S L ns x y) {e : Sm N} {l l' : Nat} (he : e ∈ G) (hs : S e.nm) (hj : Jn e y z) (hy : L y = some l) (hz : L z = some l') (hl : l' < l) : Dn G S L (ns ++ [e.nm]) x z := by
  induction d with
  | nil x => exact .cons he hs hj hy hz hl (.nil _)
  | cons he' hs' hj' hx' hy' hl' _ ih => exact .cons he' hs' hj' hx' hy' hl' (ih hj hy)
theorem Dn.len {L : N → Option Nat} (d : Dn G S L ns x y) : ∀ {l}, L x = some l → ns.length ≤ l := by
  induction d with
  | nil x => intro l _; exact Nat.zero_le _
  | @cons e x y z ns l1 l2 he hs hj h1 h2 hl _ ih =>
    intro l h
    rw [h1] at h
    cases h
    have := ih h2
    rw [List.length_cons]
    omega
/-- every stream on the way down has both its ends at or below the start -/
theorem Dn.low {L : N → Option Nat} (d : Dn G S L ns x y) : ∀ {l}, L x = some l → ∀ n, n ∈ ns → ∃ e ∈ G, e.nm = n ∧ ∃ a b, Jn e a b ∧ (∃ la, L a = some la ∧ la ≤ l) ∧ ∃ lb, L b = some lb ∧ lb < l := by
  induction d with
  | nil x => intro l _ n hn; cases hn
  | @cons e x y z ns l1 l2 he hs hj h1 h2 hl d ih =>
    intro l h n hn
    rw [h1] at h
    cases h
    rcases List.mem_cons.mp hn with rfl | hn
    · exact ⟨e, he, rfl, x, y, hj, ⟨_, h1, Nat.le_refl _⟩, _, h2, hl⟩
    · obtain ⟨e', he', hn', a, b, hj', ⟨la, h3, h4⟩, lb, h5, h6⟩ := ih h2 n hn
      exact ⟨e', he', hn', a, b, hj', ⟨la, h3, by omega⟩, lb, h5, by omega⟩
theorem Dn.nodup (uq : Uq G) {L : N → Option Nat} (d : Dn G S L ns x y) : ns.Nodup := by
  induction d with
  | nil x => exact List.nodup_nil
  | @cons e x y z ns l1 l2 he hs hj h1 h2 hl d ih =>
    refine List.nodup_cons.mpr ⟨fun hm => ?_, ih⟩
    obtain ⟨e', he', hn', a, b, hj', ⟨la, h3, h4⟩, lb, h5, h6⟩ := d.low h2 _ hm
    obtain rfl := uq e' he' e he hn'
    -- x is an end of e, at level l1, but both ends of e stand at most at l2 < l1
    have : x = a ∨ x = b := by
      rcases hj with ⟨p, q⟩ | ⟨p, q⟩ <;> rcases hj' with ⟨p', q'⟩ | ⟨p', q'⟩
      · exact .inl (p.symm.trans p')
      · exact .inr (p.symm.trans q')
      · exact .inr (p.symm.trans q')
      · exact .inl (p.symm.trans p')
    rcases this with rfl | rfl
    · rw [h1] at h3; cases h3; omega
    · rw [h1] at h5; cases h5; omega

/-! ### rings -/
/-- the ring that begins with e and goes on by rest: of the shortest -/
structure RingOf (G : List (Sm N)) (S : N → Prop) (e : Sm N) (rest : List N) : Prop where
  wk : Wk G (fun n => S n ∧ n ≠ e.nm) rest e.hd e.tl
  nd : rest.Nodup
  mn : ∀ ns, Wk G (fun n => S n ∧ n ≠ e.nm) ns e.hd e.tl → rest.length ≤ ns.length
theorem RingOf.of (uq : Uq G) {e : Sm N} {rest : List N} {L : N → Option Nat} (lv : Lv G (fun n => S n ∧ n ≠ e.nm) e.tl L) (d : Dn G (fun n => S n ∧ n ≠ e.nm) L rest e.hd e.tl) : RingOf G S e rest := by
  refine ⟨d.wk, d.nodup uq, fun ns w => ?_⟩
  obtain ⟨l', h1, h2⟩ := lv.le w.back lv.base
  have := d.len h1
  rw [List.length_reverse] at h2
  omega

/-- the least ring of a whole web -/
def LeastOf (W : List (Sm N)) : Option (List N) → Prop
  | none => ∀ e ∈ W, ¬ Rch W (· ≠ e.nm) e.hd e.tl
  | some r => (∃ e ∈ W, ∃ rest, r = e.nm :: rest ∧ Wk W (· ≠ e.nm) rest e.hd e.tl ∧ rest.Nodup) ∧ ∀ f ∈ W, ∀ ns, Wk W (· ≠ f.nm) ns f.hd f.tl → r.length ≤ ns.length + 1
theorem LeastOf.same {W : List (Sm N)} : ∀ {a b : Option (List N)}, LeastOf W a → LeastOf W b → a.map List.length = b.map List.length
  | none, none, _, _ => rfl
  | none, some r, h, k => by
    obtain ⟨⟨e, he, rest, _, w, _⟩, _⟩ := k
    exact absurd ⟨_, w⟩ (h e he)
  | some r, none, k, h => by
    obtain ⟨⟨e, he, rest, _, w, _⟩, _⟩ := k
    exact absurd ⟨_, w⟩ (h e he)
  | some r, some q, ⟨⟨e, he, rest, h1, w1, _⟩, m1⟩, ⟨⟨f, hf, rest', h2, w2, _⟩, m2⟩ => by
    have a1 := m1 f hf _ w2
    have a2 := m2 e he _ w1
    subst h1
    subst h2
    simp only [List.length_cons] at a1 a2
    show some (List.length _) = some (List.length _)
    simp only [List.length_cons]
    congr 1
    omega

/-! ### the merged web -/
/-- W is the web G with the knots that hang together by the streams outside of M made one by lots -/
structure Mrg (G : List (Sm N)) (Kn M : N → Prop) (lots : N → N) (W : List (Sm N)) : Prop where
  ends : ∀ e ∈ G, Kn e.tl ∧ Kn e.hd
  lot : ∀ x y, Kn x → Kn y → (lots x = lots y ↔ Rch G (fun n => ¬ M n) x y)
  web : ∀ f, f ∈ W ↔ ∃ e ∈ G, M e.nm ∧ f = ⟨e.nm, lots e.tl, lots e.hd, e.lo, e.hi⟩
theorem Mrg.uq {Kn M : N → Prop} {lots : N → N} {W : List (Sm N)} (m : Mrg G Kn M lots W) (uq : Uq G) : Uq W := by
  intro f hf g hg h
  obtain ⟨e, he, _, rfl⟩ := (m.web f).mp hf
  obtain ⟨e', he', _, rfl⟩ := (m.web g).mp hg
  obtain rfl := uq e he e' he' h
  rfl
theorem Mrg.rch {Kn M : N → Prop} {lots : N → N} {W : List (Sm N)} (m : Mrg G Kn M lots W) (_hT : ∀ n, T n → M n) (hx : Kn x) (hy : Kn y) :
    Rch W T (lots x) (lots y) ↔ Rch G (fun n => ¬ M n ∨ T n) x y := by
  constructor
  · intro h
    have := h.ind (P := fun q => ∃ y', Kn y' ∧ q = lots y' ∧ Rch G (fun n => ¬ M n ∨ T n) x y') ⟨x, hx, rfl, Rch.refl _⟩ ?_
    · obtain ⟨y', ky, e, r⟩ := this
      exact r.trans (((m.lot y' y ky hy).mp e.symm).mono fun n hn => .inl hn)
    · rintro f hf hn u v hj ⟨y', ky, rfl, r⟩
      obtain ⟨e, he, hM, rfl⟩ := (m.web f).mp hf
      obtain ⟨k1, k2⟩ := m.ends e he
      have one : Rch G (fun n => ¬ M n ∨ T n) e.tl e.hd := Rch.one he (.inr hn) (.inl ⟨rfl, rfl⟩)
      rcases hj with ⟨a, b⟩ | ⟨a, b⟩
      · refine ⟨e.hd, k2, b.symm, (r.trans ?_).trans one⟩
        exact ((m.lot y' e.tl ky k1).mp a.symm).mono fun n hn => .inl hn
      · refine ⟨e.tl, k1, b.symm, (r.trans ?_).trans one.symm⟩
        exact ((m.lot y' e.hd ky k2).mp a.symm).mono fun n hn => .inl hn
  · intro h
    refine (h.ind (P := fun q => Kn q ∧ Rch W T (lots x) (lots q)) ⟨hx, Rch.refl _⟩ ?_).2
    rintro e he hn u v hj ⟨ku, r⟩
    obtain ⟨k1, k2⟩ := m.ends e he
    have kv : Kn v := by
      rcases hj with ⟨_, rfl⟩ | ⟨_, rfl⟩
      · exact k2
      · exact k1
    refine ⟨kv, r.trans ?_⟩
    by_cases hM : M e.nm
    · have hTe : T e.nm := by
        rcases hn with hn | hn
        · exact absurd hM hn
        · exact hn
      refine Rch.one (e := ⟨e.nm, lots e.tl, lots e.hd, e.lo, e.hi⟩) ((m.web _).mpr ⟨e, he, hM, rfl⟩) hTe ?_
      rcases hj with ⟨rfl, rfl⟩ | ⟨rfl, rfl⟩
      · exact .inl ⟨rfl, rfl⟩
      · exact .inr ⟨rfl, rfl⟩
    · rw [(m.lot u v ku kv).mpr (Rch.one he hM hj)]
      exact Rch.refl _

/-! ### what is told -/
/-- the stream n is told by the metered ones m -/
def Told (G : List (Sm N)) (m : N → Prop) (n : N) : Prop := m n ∨ ¬ ∃ e ∈ G, e.nm = n ∧ Rch G (fun k => ¬ m k ∧ k ≠ n) e.hd e.tl
theorem told_out {m : N → Prop} (uq : Uq G) {e : Sm N} (he : e ∈ G) (hm : ¬ m e.nm) : Told G m e.nm ↔ ¬ Rch G (fun k => ¬ m k ∧ k ≠ e.nm) e.hd e.tl := by
  constructor
  · rintro (h | h) r
    · exact hm h
    · exact h ⟨e, he, rfl, r⟩
  · intro h
    refine .inr fun ⟨f, hf, hn, r⟩ => h ?_
    obtain rfl := uq f hf e he hn
    exact r

theorem nodup_sub_len [DecidableEq N] : ∀ {A B : List N}, A.Nodup → (∀ a ∈ A, a ∈ B) → A.length ≤ B.length
  | [], _, _, _ => Nat.zero_le _
  | a :: A, B, nd, h => by
    obtain ⟨h1, h2⟩ := List.nodup_cons.mp nd
    have hB := filter_lt (h a List.mem_cons_self)
    have := nodup_sub_len (A := A) (B := B.filter fun b => decide (b ≠ a)) h2 fun b hb => List.mem_filter.mpr ⟨h b (List.mem_cons_of_mem _ hb), by
      have : b ≠ a := fun e => h1 (e ▸ hb)
      simpa using this⟩
    rw [List.length_cons]
    omega
theorem grow : ∀ {A M : List N} {k : Nat}, A.Sublist M → A.length ≤ k → k ≤ M.length → ∃ S, A.Sublist S ∧ S.Sublist M ∧ S.length = k
  | _, _, k, .slnil, h1, h2 => ⟨[], .slnil, .slnil, by simp at h2; simp [h2]⟩
  | A, _, k, .cons (l₂ := M) a s, h1, h2 => by
    by_cases hk : k ≤ M.length
    · obtain ⟨S, s1, s2, e⟩ := grow s h1 hk
      exact ⟨S, s1, s2.cons a, e⟩
    · rw [List.length_cons] at h2
      exact ⟨a :: M, s.cons a, List.Sublist.refl _, by rw [List.length_cons]; omega⟩
  | _, _, k, .cons_cons (l₁ := A) (l₂ := M) a s, h1, h2 => by
    rw [List.length_cons] at h1 h2
    obtain ⟨S, s1, s2, e⟩ := grow (k := k - 1) s (by omega) (by omega)
    exact ⟨a :: S, s1.cons_cons a, s2.cons_cons a, by rw [List.length_cons]; omega⟩

section
variable [DecidableEq N] {Kn : N → Prop} {lots : N → N} {W : List (Sm N)} {M : List N} {res : Option (List N)}

/-- how far wrong meters are found -/
def AtLeast (res : Option (List N)) (k : Nat) : Prop := ∀ r, res = some r → k + 1 ≤ r.length

/-- no stream of S hangs together by the rest of S and the unmetered ones, if all rings are longer -/
theorem no_close (uq : Uq G) (m : Mrg G Kn (· ∈ M) lots W) (lst : LeastOf W res) {S : List N} (hS : ∀ n ∈ S, n ∈ M) (hL : AtLeast res S.length) {e : Sm N} (he : e ∈ G) (hn : e.nm ∈ S) :
    ¬ Rch G (fun k => ¬ (k ∈ M ∧ k ∉ S) ∧ k ≠ e.nm) e.hd e.tl := by
  intro r
  obtain ⟨k1, k2⟩ := m.ends e he
  have r2 : Rch W (· ∈ S.filter fun b => decide (b ≠ e.nm)) (lots e.hd) (lots e.tl) := by
    refine (m.rch (fun n hn => hS n (List.mem_filter.mp hn).1) k2 k1).mpr (r.mono fun n hn => ?_)
    by_cases hM : n ∈ M
    · have hnS : n ∈ S := Classical.byContradiction fun q => hn.1 ⟨hM, q⟩
      exact .inr (List.mem_filter.mpr ⟨hnS, by simpa using hn.2⟩)
    · exact .inl hM
  obtain ⟨ns, w, hl⟩ := Rch.short (m.uq uq) _ _ (Nat.le_refl _) r2
  have hlt := filter_lt hn
  have hw : (⟨e.nm, lots e.tl, lots e.hd, e.lo, e.hi⟩ : Sm N) ∈ W := (m.web _).mpr ⟨e, he, hS _ hn, rfl⟩
  have w2 : Wk W (· ≠ e.nm) ns (lots e.hd) (lots e.tl) := w.mono fun n _ hn => by simpa using (List.mem_filter.mp hn).2
  cases res with
  | none => exact lst _ hw ⟨ns, w2⟩
  | some q =>
    have a := lst.2 _ hw ns w2
    have b := hL q rfl
    omega

/-- the meters S left out: the same streams are told, if all rings are longer -/
theorem same_told (uq : Uq G) (nmM : ∀ n ∈ M, ∃ e ∈ G, e.nm = n) (m : Mrg G Kn (· ∈ M) lots W) (lst : LeastOf W res) {S : List N} (nd : S.Nodup) (hS : ∀ n ∈ S, n ∈ M) (hL : AtLeast res S.length) (n : N) (hnG : ∃ e ∈ G, e.nm = n) :
    Told G (fun k => k ∈ M ∧ k ∉ S) n ↔ Told G (· ∈ M) n := by
  obtain ⟨e, he, rfl⟩ := hnG
  constructor
  · rintro (h | h)
    · exact .inl h.1
    · by_cases hM : e.nm ∈ M
      · exact .inl hM
      · refine .inr fun ⟨f, hf, hn, r⟩ => h ⟨f, hf, hn, r.mono fun k hk => ⟨fun q => hk.1 q.1, hk.2⟩⟩
  · intro h
    by_cases hM : e.nm ∈ M
    · by_cases hSn : e.nm ∈ S
      · exact (told_out uq he (fun q => q.2 hSn)).mpr (no_close uq m lst hS hL he hSn)
      · exact .inl ⟨hM, hSn⟩
    · have h0 := (told_out uq he hM).mp h
      refine (told_out uq he (fun q => hM q.1)).mpr ?_
      -- one stream of S after another
      have step : ∀ S' : List N, S'.Nodup → (∀ n ∈ S', n ∈ S) → ¬ Rch G (fun k => (k ∉ M ∧ k ≠ e.nm) ∨ k ∈ S') e.hd e.tl := by
        intro S'
        induction S' with
        | nil =>
          intro _ _ r
          refine h0 (r.mono fun k hk => ?_)
          rcases hk with hk | hk
          · exact hk
          · cases hk
        | cons s S' ih =>
          intro nd' hs' r
          obtain ⟨n1, n2⟩ := List.nodup_cons.mp nd'
          have ih' := ih n2 fun n hn => hs' n (List.mem_cons_of_mem _ hn)
          have hsS : s ∈ S := hs' s List.mem_cons_self
          obtain ⟨f, hf, rfl⟩ := nmM s (hS s hsS)
          have sw := Rch.swap (S := fun k => (k ∉ M ∧ k ≠ e.nm) ∨ k ∈ S') hf (fun g hg q => uq g hg f hf q) (r.mono fun k hk => by
            rcases hk with hk | hk
            · exact .inl (.inl hk)
            · rcases List.mem_cons.mp hk with hk | hk
              · exact .inr hk
              · exact .inl (.inr hk)) ih' he (.inr ⟨rfl, rfl⟩)
          refine no_close uq m lst hS hL hf hsS (sw.symm.mono fun k hk => ?_)
          rcases hk with (hk | hk) | hk
          · exact ⟨fun q => hk.1 q.1, fun q => hk.1 (q ▸ hS _ hsS)⟩
          · exact ⟨fun q => q.2 (hs' k (List.mem_cons_of_mem _ hk)), fun q => n1 (q ▸ hk)⟩
          · subst hk
            exact ⟨fun q => hM q.1, fun q => hM (q ▸ hS _ hsS)⟩
      intro r
      refine step S nd (fun _ h => h) (r.mono fun k hk => ?_)
      by_cases hkM : k ∈ M
      · exact .inr (Classical.byContradiction fun q => hk.1 ⟨hkM, q⟩)
      · exact .inl ⟨hkM, hk.2⟩

omit [DecidableEq N] in
/-- the names of a least ring are metered -/
theorem ring_in (m : Mrg G Kn (· ∈ M) lots W) {r : List N} (lst : LeastOf W (some r)) : ∀ n ∈ r, n ∈ M := by
  intro n hn
  obtain ⟨⟨e, he, rest, rfl, w, _⟩, _⟩ := lst
  have key : ∀ f ∈ W, f.nm ∈ M := fun f hf => by
    obtain ⟨g, _, hM, rfl⟩ := (m.web f).mp hf
    exact hM
  rcases List.mem_cons.mp hn with rfl | hn
  · exact key e he
  · obtain ⟨f, hf, rfl⟩ := w.named n hn
    exact key f hf

/-- each stream of a least ring is closed by the others -/
theorem ring_closed (uq : Uq G) (m : Mrg G Kn (· ∈ M) lots W) {r : List N} (lst : LeastOf W (some r)) {e : Sm N} (he : e ∈ G) (hn : e.nm ∈ r) :
    Rch G (fun k => (k ∉ M ∨ k ∈ r) ∧ k ≠ e.nm) e.hd e.tl := by
  have hin := ring_in m lst
  obtain ⟨k1, k2⟩ := m.ends e he
  -- in the merged web
  have rw_ : Rch W (fun k => k ∈ r ∧ k ≠ e.nm) (lots e.hd) (lots e.tl) := by
    obtain ⟨⟨f, hf, rest, rfl, w, nd⟩, _⟩ := lst
    have hw : (⟨e.nm, lots e.tl, lots e.hd, e.lo, e.hi⟩ : Sm N) ∈ W := (m.web _).mpr ⟨e, he, hin _ hn, rfl⟩
    rcases List.mem_cons.mp hn with hc | hc
    · obtain rfl := m.uq uq _ hw f hf hc
      exact ⟨rest, w.mono fun n hn hq => ⟨List.mem_cons_of_mem _ hn, hq⟩⟩
    · obtain ⟨p, q, g, u, v, rfl, hg, hgn, hj, w1, w2⟩ := w.cut hc
      obtain rfl := m.uq uq _ hw g hg hgn.symm
      have nd' := List.nodup_append.mp nd
      have nq := (List.nodup_cons.mp nd'.2.1).1
      have np : ∀ k ∈ p, k ≠ e.nm := fun k hk => nd'.2.2 k hk e.nm List.mem_cons_self
      have hfe : f.nm ≠ e.nm := fun q => (w.all _ hc) q.symm
      have r1 : Rch W (fun k => k ∈ f.nm :: (p ++ e.nm :: q) ∧ k ≠ e.nm) f.hd u := ⟨p, w1.mono fun k hk _ => ⟨List.mem_cons_of_mem _ (List.mem_append_left _ hk), np k hk⟩⟩
      have r2 : Rch W (fun k => k ∈ f.nm :: (p ++ e.nm :: q) ∧ k ≠ e.nm) v f.tl := ⟨q, w2.mono fun k hk _ => ⟨List.mem_cons_of_mem _ (List.mem_append_right _ (List.mem_cons_of_mem _ hk)), fun z => nq (z ▸ hk)⟩⟩
      have r3 : Rch W (fun k => k ∈ f.nm :: (p ++ e.nm :: q) ∧ k ≠ e.nm) f.tl f.hd := Rch.one hf ⟨List.mem_cons_self, hfe⟩ (.inl ⟨rfl, rfl⟩)
      have r4 := (r2.trans r3).trans r1
      rcases hj with ⟨a, b⟩ | ⟨a, b⟩
      · have a : lots e.tl = u := a
        have b : lots e.hd = v := b
        rw [a, b]
        exact r4
      · have a : lots e.hd = u := a
        have b : lots e.tl = v := b
        rw [a, b]
        exact r4.symm
  refine ((m.rch (fun n hn => hin n hn.1) k2 k1).mp rw_).mono fun k hk => ?_
  rcases hk with hk | hk
  · exact ⟨.inl hk, fun q => hk (q ▸ hin _ hn)⟩
  · exact ⟨.inr hk.1, hk.2⟩

/-- the first part of the law: any k of the meters can be left out exactly if all rings are longer -/
theorem out_iff (uq : Uq G) (nmM : ∀ n ∈ M, ∃ e ∈ G, e.nm = n) (ndM : M.Nodup) (m : Mrg G Kn (· ∈ M) lots W) (lst : LeastOf W res) {k : Nat} (hk : k ≤ M.length) :
    (∀ S : List N, S.Sublist M → S.length = k → ∀ n, (∃ e ∈ G, e.nm = n) → (Told G (fun j => j ∈ M ∧ j ∉ S) n ↔ Told G (· ∈ M) n)) ↔ AtLeast res k := by
  constructor
  · intro h r hr
    subst hr
    refine Classical.byContradiction fun hlt => ?_
    have hin := ring_in m lst
    have hA : (M.filter fun b => decide (b ∈ r)).length ≤ k := by
      have := nodup_sub_len (A := M.filter fun b => decide (b ∈ r)) (B := r) (ndM.sublist List.filter_sublist) fun a ha => by simpa using (List.mem_filter.mp ha).2
      omega
    obtain ⟨S, s1, s2, e2⟩ := grow (List.filter_sublist (l := M) (p := fun b => decide (b ∈ r))) hA hk
    have hrS : ∀ n ∈ r, n ∈ S := fun n hn => s1.subset (List.mem_filter.mpr ⟨hin n hn, by simpa using hn⟩)
    have hne : ∃ n, n ∈ r := by
      obtain ⟨⟨f, hf, rest, rfl, _⟩, _⟩ := lst
      exact ⟨f.nm, List.mem_cons_self⟩
    obtain ⟨n, hn⟩ := hne
    obtain ⟨e, he, rfl⟩ := nmM n (hin n hn)
    have t := (h S s2 e2 e.nm ⟨e, he, rfl⟩).mpr (.inl (hin _ hn))
    refine (told_out uq he (fun q => q.2 (hrS _ hn))).mp t ((ring_closed uq m lst he hn).mono fun j hj => ⟨fun q => ?_, hj.2⟩)
    rcases hj.1 with z | z
    · exact z q.1
    · exact q.2 (hrS j z)
  · intro hL S hs hl n hn
    exact same_told uq nmM m lst (ndM.sublist hs) (fun n hn => hs.subset hn) (by rw [hl]; exact hL) n hn

/-- the second part: each metered stream is told by the other ones exactly if no ring is of one stream -/
theorem alone_iff (uq : Uq G) (nmM : ∀ n ∈ M, ∃ e ∈ G, e.nm = n) (m : Mrg G Kn (· ∈ M) lots W) (lst : LeastOf W res) :
    (∀ n ∈ M, Told G (fun j => j ∈ M ∧ j ≠ n) n) ↔ AtLeast res 1 := by
  constructor
  · intro h r hr
    subst hr
    have hin := ring_in m lst
    obtain ⟨⟨f, hf, rest, rfl, w, _⟩, _⟩ := lst
    cases rest with
    | cons _ _ => simp
    | nil =>
      exfalso
      have hfd : f.hd = f.tl := w.none
      obtain ⟨e, he, hM, rfl⟩ := (m.web f).mp hf
      obtain ⟨k1, k2⟩ := m.ends e he
      have t := (told_out uq he (fun q => q.2 rfl)).mp (h _ hM)
      refine t (((m.lot e.hd e.tl k2 k1).mp hfd).mono fun j hj => ⟨fun q => hj q.1, fun q => hj (q ▸ hM)⟩)
  · intro hL n hn
    obtain ⟨e, he, rfl⟩ := nmM n hn
    refine (told_out uq he (fun q => q.2 rfl)).mpr fun r => ?_
    refine no_close uq m lst (S := [e.nm]) (fun n h => by rw [List.mem_singleton.mp h]; exact hn) hL he List.mem_cons_self (r.mono fun j hj => ⟨fun q => hj.1 ⟨q.1, hj.2⟩, hj.2⟩)

/-- the third part: a least ring, left out as a whole, is told by nothing -/
theorem ring_untold (uq : Uq G) (nmM : ∀ n ∈ M, ∃ e ∈ G, e.nm = n) (m : Mrg G Kn (· ∈ M) lots W) {r : List N} (lst : LeastOf W (some r)) {n : N} (hn : n ∈ r) : ¬ Told G (fun j => j ∈ M ∧ j ∉ r) n := by
  obtain ⟨e, he, rfl⟩ := nmM n (ring_in m lst n hn)
  intro t
  refine (told_out uq he (fun q => q.2 hn)).mp t ((ring_closed uq m lst he hn).mono fun j hj => ⟨fun q => ?_, hj.2⟩)
  rcases hj.1 with z | z
  · exact z q.1
  · exact q.2 z
/-- left out but for one stream it is -/
theorem ring_told (uq : Uq G) (nmM : ∀ n ∈ M, ∃ e ∈ G, e.nm = n) (m : Mrg G Kn (· ∈ M) lots W) {c : N} {rest : List N} (lst : LeastOf W (some (c :: rest))) {n : N} (hn : n ∈ c :: rest) :
    Told G (fun j => (j ∈ M ∧ j ∉ c :: rest) ∨ j = c) n := by
  have hin := ring_in m lst
  by_cases hc : n = c
  · exact .inl (.inr hc)
  · have hnr : n ∈ rest := by
      rcases List.mem_cons.mp hn with h | h
      · exact absurd h hc
      · exact h
    obtain ⟨e, he, rfl⟩ := nmM n (hin n hn)
    refine (told_out uq he (fun q => ?_)).mpr fun r => ?_
    · rcases q with q | q
      · exact q.2 hn
      · exact hc q
    · obtain ⟨k1, k2⟩ := m.ends e he
      have r2 : Rch W (· ∈ rest.filter fun b => decide (b ≠ e.nm)) (lots e.hd) (lots e.tl) := by
        refine (m.rch (fun n hn => hin n (List.mem_cons_of_mem _ (List.mem_filter.mp hn).1)) k2 k1).mpr (r.mono fun j hj => ?_)
        by_cases hM : j ∈ M
        · have h1 : j ∈ c :: rest := Classical.byContradiction fun q => hj.1 (.inl ⟨hM, q⟩)
          rcases List.mem_cons.mp h1 with h1 | h1
          · exact absurd (.inr h1) hj.1
          · exact .inr (List.mem_filter.mpr ⟨h1, by simpa using hj.2⟩)
        · exact .inl hM
      obtain ⟨ns, w, hl⟩ := Rch.short (m.uq uq) _ _ (Nat.le_refl _) r2
      have hlt := filter_lt hnr
      have hw : (⟨e.nm, lots e.tl, lots e.hd, e.lo, e.hi⟩ : Sm N) ∈ W := (m.web _).mpr ⟨e, he, hin _ hn, rfl⟩
      have a := lst.2 _ hw ns (w.mono fun j _ hj => by simpa using (List.mem_filter.mp hj).2)
      rw [List.length_cons] at a
      omega
end
end
end Ms
end
section
/-! max and min of two texts. -/
namespace MsLow
open PySem PySem.Spec PyProof.Rows L2
section
variable {prog : Program} {w : World} {A : Around} {E : Value → Shared → Prop} {s : Shared}
/-- the two items -/
def two (x : Str) (t : Tok) (y : Str) (u : Tok) : Array Value := #[.str x t, .str y u]
def pick (x y : Str) : Nat → Str
  | 0 => x
  | _ => y
theorem two_at {x y : Str} {t u : Tok} {i : Nat} {v : Value} (h : (two x t y u)[i]? = some v) : ∃ k, v = .str (pick x y i) k := by
  match i, h with
  | 0, h => exact ⟨t, (Option.some.inj h).symm⟩
  | 1, h => exact ⟨u, (Option.some.inj h).symm⟩
theorem cmp_gt (x : Str) (t : Tok) (y : Str) (u : Tok) : CmpOf prog w A .Gt (fun i v => (two x t y u)[i]? = some v) (fun i j => decide ((pick x y j).cps.toList < (pick x y i).cps.toList)) := by
  intro i j vi vj s Q E hi hj hQ
  obtain ⟨k, rfl⟩ := two_at hi
  obtain ⟨k', rfl⟩ := two_at hj
  exact PySem.P.gt_str (prog := prog) (w := w) (A := A) (s := s) (E := E) hQ
theorem cmp_lt (x : Str) (t : Tok) (y : Str) (u : Tok) : CmpOf prog w A .Lt (fun i v => (two x t y u)[i]? = some v) (fun i j => decide ((pick x y i).cps.toList < (pick x y j).cps.toList)) := by
  intro i j vi vj s Q E hi hj hQ
  obtain ⟨k, rfl⟩ := two_at hi
  obtain ⟨k', rfl⟩ := two_at hj
  exact PyProof.Rows.lt_str (prog := prog) (w := w) (A := A) (s := s) (E := E) hQ
theorem best_of {bt : Nat → Nat → Bool} {x y : Str} {t u : Tok} {v : Value} (h : (two x t y u)[argBest bt ((two x t y u).size - 1)]? = some v) : v = if bt 1 0 = true then .str y u else .str x t := by
  have e : argBest bt ((two x t y u).size - 1) = if bt 1 0 = true then 1 else 0 := rfl
  rw [e] at h
  by_cases c : bt 1 0 = true
  · rw [if_pos c] at h ⊢
    exact (Option.some.inj h).symm
  · rw [if_neg c] at h ⊢
    exact (Option.some.inj h).symm
theorem max_two {x y : Str} {t u : Tok} {Q : Value → Shared → Prop} (hh : A.handled = none)
    (h : ∀ h' tk, (∀ c o, s.heap.get? c = some o → h'.get? c = some o) → Q (if decide (x.cps.toList < y.cps.toList) = true then .str y u else .str x t) { s with heap := h', toks := tk }) :
    wpAny (model prog w) A (call (.builtin "max") [.str x t, .str y u]) Q E s := by
  have hsz : (s.heap.push { cls := .type "tuple", data := .seq #[.str x t, .str y u] }).objs.size = s.heap.objs.size + 1 := Heap.size_push ..
  have hT : (s.heap.push { cls := .type "tuple", data := .seq (two x t y u) }).IsTuple s.heap.objs.size (two x t y u) := ⟨_, Heap.get?_push_size _ rfl, rfl, 0, rfl⟩
  refine call_max_two (wpAny_pyIter_tuple hT ?_)
  refine ⟨_, [_, s.heap.objs.size], [_], _, _, _, _, rfl, Walks.tuple (A := A.in1) hh _ s.heap.objs.size (by show s.heap.objs.size ≠ (s.heap.push _).objs.size; rw [hsz]; exact Nat.ne_of_lt (Nat.lt_succ_self _)) (two x t y u),
    ⟨⟨_, Heap.get?_push_size _ rfl, rfl, rfl⟩, hT.push _⟩, fun c hc => ?_, Nat.zero_lt_succ 1, cmp_gt x t y u, fun v h' tk hP hk => ?_⟩
  · show c < ((s.heap.push _).push _).objs.size
    rw [Heap.size_push, hsz]
    simp only [List.mem_cons, List.not_mem_nil, or_false] at hc
    rcases hc with rfl | rfl
    · show (s.heap.push _).objs.size < _
      rw [hsz]
      exact Nat.lt_succ_self _
    · exact Nat.lt_succ_of_lt (Nat.lt_succ_self _)
  · have hold : ∀ c o, s.heap.get? c = some o → h'.get? c = some o := fun c o e => by
      refine hk c o (fun hm => ?_) (Heap.get?_push_of_some _ (Heap.get?_push_of_some _ e))
      have z := Heap.lt_size e
      have q : c = (s.heap.push { cls := .type "tuple", data := .seq #[.str x t, .str y u] }).objs.size := List.mem_singleton.mp hm
      rw [q, hsz] at z
      exact Nat.lt_irrefl _ (Nat.lt_of_succ_lt z)
    rw [best_of hP]
    exact h h' tk hold
theorem min_two {x y : Str} {t u : Tok} {Q : Value → Shared → Prop} (hh : A.handled = none)
    (h : ∀ h' tk, (∀ c o, s.heap.get? c = some o → h'.get? c = some o) → Q (if decide (y.cps.toList < x.cps.toList) = true then .str y u else .str x t) { s with heap := h', toks := tk }) :
    wpAny (model prog w) A (call (.builtin "min") [.str x t, .str y u]) Q E s := by
  have hsz : (s.heap.push { cls := .type "tuple", data := .seq #[.str x t, .str y u] }).objs.size = s.heap.objs.size + 1 := Heap.size_push ..
  have hT : (s.heap.push { cls := .type "tuple", data := .seq (two x t y u) }).IsTuple s.heap.objs.size (two x t y u) := ⟨_, Heap.get?_push_size _ rfl, rfl, 0, rfl⟩
  refine call_min_two (wpAny_pyIter_tuple hT ?_)
  refine ⟨_, [_, s.heap.objs.size], [_], _, _, _, _, rfl, Walks.tuple (A := A.in1) hh _ s.heap.objs.size (by show s.heap.objs.size ≠ (s.heap.push _).objs.size; rw [hsz]; exact Nat.ne_of_lt (Nat.lt_succ_self _)) (two x t y u),
    ⟨⟨_, Heap.get?_push_size _ rfl, rfl, rfl⟩, hT.push _⟩, fun c hc => ?_, Nat.zero_lt_succ 1, cmp_lt x t y u, fun v h' tk hP hk => ?_⟩
  · show c < ((s.heap.push _).push _).objs.size
    rw [Heap.size_push, hsz]
    simp only [List.mem_cons, List.not_mem_nil, or_false] at hc
    rcases hc with rfl | rfl
    · show (s.heap.push _).objs.size < _
      rw [hsz]
      exact Nat.lt_succ_self _
    · exact Nat.lt_succ_of_lt (Nat.lt_succ_self _)
  · have hold : ∀ c o, s.heap.get? c = some o → h'.get? c = some o := fun c o e => by
      refine hk c o (fun hm => ?_) (Heap.get?_push_of_some _ (Heap.get?_push_of_some _ e))
      have z := Heap.lt_size e
      have q : c = (s.heap.push { cls := .type "tuple", data := .seq #[.str x t, .str y u] }).objs.size := List.mem_singleton.mp hm
      rw [q, hsz] at z
      exact Nat.lt_irrefl _ (Nat.lt_of_succ_lt z)
    rw [best_of hP]
    exact h h' tk hold
end
section
variable {X : Cx}
def bigger (x y : Str) : Str := if x.cps.toList < y.cps.toList then y else x
def lesser (x y : Str) : Str := if y.cps.toList < x.cps.toList then y else x
theorem call_max2S (hc : X.calm = true) : CallR X (.builtin "max") (fun xs H Q => ∃ i j, xs = [.str i, .str j] ∧ Q (.str (bigger i j)) H) := by
  intro pins s σ H xs us Q I r h
  obtain ⟨i, j, rfl, q⟩ := h
  obtain ⟨u, w', rfl, ⟨t, rfl⟩, ⟨t', rfl⟩⟩ := vals2 r
  refine max_two (I.ok.hd hc) fun h' tk k => ⟨_, H, I.kept k, ?_, q⟩
  unfold bigger
  by_cases hj : i.cps.toList < j.cps.toList
  · rw [if_pos hj, if_pos (decide_eq_true hj)]; exact ⟨_, rfl⟩
  · rw [if_neg hj, if_neg (by simpa using hj)]; exact ⟨_, rfl⟩
theorem call_min2S (hc : X.calm = true) : CallR X (.builtin "min") (fun xs H Q => ∃ i j, xs = [.str i, .str j] ∧ Q (.str (lesser i j)) H) := by
  intro pins s σ H xs us Q I r h
  obtain ⟨i, j, rfl, q⟩ := h
  obtain ⟨u, w', rfl, ⟨t, rfl⟩, ⟨t', rfl⟩⟩ := vals2 r
  refine min_two (I.ok.hd hc) fun h' tk k => ⟨_, H, I.kept k, ?_, q⟩
  unfold lesser
  by_cases hj : j.cps.toList < i.cps.toList
  · rw [if_pos hj, if_pos (decide_eq_true hj)]; exact ⟨_, rfl⟩
  · rw [if_neg hj, if_neg (by simpa using hj)]; exact ⟨_, rfl⟩
end
end MsLow
end
section
/-! Sets of texts: set(list of texts), len, sorted. -/
namespace MsLow
open PySem PySem.Spec PyProof.Rows L2
/-! ### what a set of texts is -/
def keyT (e : Int × Value) : Str := match e.2 with | .str x _ => x | _ => Str.empty
def GoodT (w : World) (e : Int × Value) : Prop := ∃ x tk, e.2 = Value.str x tk ∧ e.1 = hashStr w x
/-- the set of texts at a: S its members, n their number; it can be walked -/
def SetT (w : World) (h : Heap) (a : Addr) (S : Str → Bool) (n : Nat) : Prop :=
  ∃ o es ep t, h.get? a = some o ∧ o.ExactSet ∧ o.data = .set es ep t ∧ (∀ e ∈ es.toList, GoodT w e) ∧ (es.toList.map keyT).Nodup ∧ (∀ k, S k = true ↔ k ∈ es.toList.map keyT) ∧
    es.size < scanBound ∧ t.fits es.size = true ∧ es.size = n ∧ Ris t.place.toList ∧ (w.params.followText "set-order" = true ∨ t.led = true)
section
variable {P : Program} {w : World} {h h' : Heap} {a : Addr} {S : Str → Bool} {n : Nat}
theorem SetT.at (R : SetT w h a S n) (k : ∀ o, h.get? a = some o → h'.get? a = some o) : SetT w h' a S n := by
  obtain ⟨o, es, ep, t, ho, r⟩ := R
  exact ⟨o, es, ep, t, k o ho, r⟩
theorem SetT.congr {S' : Str → Bool} (R : SetT w h a S n) (e : ∀ k, S' k = S k) : SetT w h a S' n := by
  have q : S' = S := funext e
  rw [q]; exact R
theorem isT_is (P : Program) (w : World) (x : Str) (t : Tok) : (PySem.strKind P w).is x (.str x t) = true := strKind_is P w x t
theorem goodT_elems {l : List (Int × Value)} (g : ∀ e ∈ l, GoodT w e) : ElemsOf (PySem.strKind P w) l := fun e he => by
  obtain ⟨x, tk, h1, h2⟩ := g e he
  exact ⟨⟨x, by rw [h1]; exact isT_is P w x tk, h2⟩, by rw [h1] <;> rfl⟩
theorem goodT_is {e : Int × Value} (g : GoodT w e) (x : Str) : (PySem.strKind P w).is x e.2 = true ↔ keyT e = x := by
  obtain ⟨x0, tk, h1, _⟩ := g
  unfold keyT
  rw [h1]
  constructor
  · intro q
    have q' : Value.isStrOf x (Value.str x0 tk) = true := q
    obtain ⟨u, hu⟩ := Value.isStrOf_shape q'
    injection hu
  · intro q
    subst q
    exact isT_is P w _ tk
theorem goodT_mem {l : List (Int × Value)} (g : ∀ e ∈ l, GoodT w e) (x : Str) : x ∈ l.map keyT ↔ ∃ e ∈ l, (PySem.strKind P w).is x e.2 = true := by
  rw [List.mem_map]
  constructor
  · rintro ⟨e, he, q⟩
    exact ⟨e, he, (goodT_is (g e he) x).2 q⟩
  · rintro ⟨e, he, q⟩
    exact ⟨e, he, (goodT_is (g e he) x).1 q⟩
end
section
variable {P : Program} {w : World} {A : Around} {E : Value → Shared → Prop} {s : Shared} {a : Addr} {S : Str → Bool} {n : Nat}
/-! ### one more member -/
theorem setT_tail {g : Bool → Sem Unit} (hg : ∀ (b : Bool) (s₁ : Shared) (Q' : Unit → Shared → Prop), Q' () s₁ → wpAny (model P w) A (g b) Q' E s₁)
    {o : Obj} {es : Array (Int × Value)} {ep : Nat} {t : SetTable} (ho : s.heap.get? a = some o) (hex : o.ExactSet) (hd : o.data = .set es ep t)
    {es1 : Array (Int × Value)} {t2 : SetTable} {S' : Str → Bool} (g1 : ∀ e ∈ es1.toList, GoodT w e) (nd1 : (es1.toList.map keyT).Nodup) (m1 : ∀ k, S' k = true ↔ k ∈ es1.toList.map keyT)
    (hb1 : es1.size < scanBound) (hf2 : t2.fits es1.size = true) (hr : Ris t2.place.toList) (hl : w.params.followText "set-order" = true ∨ t2.led = true) {wasDummy : Bool} {R : Option Bool → Shared → Prop}
    (hR : ∀ h', Heap.SameBut a s.heap h' → SetT w h' a S' es1.size → R (some true) { s with heap := h' }) :
    wpAny (model P w) A (do
        storeSet a es1 t2
        if (!wasDummy && t2.tooFull) = true then do
            g (relayAll t2 es1 (SetTable.grown es1.size)).2.2
            storeSet a (relayAll t2 es1 (SetTable.grown es1.size)).1 (relayAll t2 es1 (SetTable.grown es1.size)).2.1
            pure (some true)
          else pure (some true)) R E s := by
  refine wpAny_bind (wpAny_storeSet_of ho hd ?_ (fits_of_scanBound hb1))
  have ho1 := store_at (es' := es1) (t' := t2) ho hd
  have sb1 := Heap.SameBut.update s.heap a (Obj.putSet es1 t2)
  split
  · have pm := relayAll_perm t2 es1 (SetTable.grown es1.size)
    have hf3 := relayAll_fits t2 es1 (SetTable.grown es1.size)
    have hr3 := relayAll_ris t2 es1 (SetTable.grown es1.size)
    have hl3 := relayAll_led t2 es1 (SetTable.grown es1.size)
    generalize relayAll t2 es1 (SetTable.grown es1.size) = Z at pm hf3 hr3 hl3 ⊢
    obtain ⟨es2, t3, gave⟩ := Z
    dsimp only at pm hf3 hr3 hl3 ⊢
    have hsz : es2.size = es1.size := by rw [← Array.length_toList, pm.length_eq, Array.length_toList]
    have hb2 : es2.size < scanBound := by rw [hsz]; exact hb1
    refine wpAny_bind (hg _ _ _ ?_)
    refine wpAny_bind (wpAny_storeSet_of ho1 rfl ?_ (fits_of_scanBound hb2))
    have ho2 := store_at (es' := es2) (t' := t3) ho1 rfl
    refine wpAny_pure (hR _ (sb1.trans (Heap.SameBut.update _ a _)) ?_)
    exact ⟨_, es2, _, t3, ho2, hex, rfl, fun e he => g1 e (pm.mem_iff.mp he), (pm.map keyT).nodup_iff.mpr nd1, fun k => (m1 k).trans (pm.map keyT).mem_iff.symm, hb2, hf3, hsz, hr3,
      hl.imp id fun z => by rw [hl3]; exact z⟩
  · exact wpAny_pure (hR _ sb1 ⟨_, es1, _, t2, ho1, hex, rfl, g1, nd1, m1, hb1, hf2, rfl, hr, hl⟩)
theorem setT_add {k : Str} {tk : Tok} {Q : Bool → Shared → Prop} (R : SetT w s.heap a S n) (room : n + 1 < scanBound)
    (hQ : ∀ h', Heap.SameBut a s.heap h' → SetT w h' a (fun j => S j || decide (j = k)) (if S k = true then n else n + 1) → Q (!S k) { s with heap := h' }) :
    wpAny (model P w) A (setAddHashed a (.str k tk) ((PySem.strKind P w).hash k)) Q E s := by
  obtain ⟨o, es, ep, t, ho, hex, hd, g, nd, hm, hb, hf, hn, hr, hl⟩ := R
  have hkey : (PySem.strKind P w).is k (.str k tk) = true := isT_is P w k tk
  have hsc : (Value.str k tk).scannable = true := rfl
  have hel : ElemsOf (PySem.strKind P w) es.toList := goodT_elems g
  unfold setAddHashed setAddHashedIn
  refine wpAny_holding (wpAny_bind (wpAny_setState_of ho hd hf ?_))
  dsimp only
  rw [byScan_of hsc hb hel]
  simp only [↓reduceIte]
  unfold setAddByScan
  refine wpAny_bind ?_
  refine wpAny_bind (wpAny_rule ?_)
  refine wpAny_bind (wpAny_setScan_of hkey ho hd hf hel ?_)
  cases hfi : List.findIdx? (fun e => (PySem.strKind P w).is k e.2) es.toList with
  | some j =>
    dsimp only
    obtain ⟨hj, pj, _⟩ := List.findIdx?_eq_some_iff_getElem.mp hfi
    have hSk : S k = true := (hm k).2 ((goodT_mem (P := P) (w := w) g k).2 ⟨es.toList[j], List.getElem_mem hj, pj⟩)
    refine wpAny_pure (wpAny_pure ?_)
    have q := hQ s.heap (Heap.SameBut.refl a s.heap) ⟨o, es, ep, t, ho, hex, hd, g, nd, fun i => by
      rw [Bool.or_eq_true, decide_eq_true_eq, ← hm i]
      exact ⟨fun z => z.elim id (fun e => e ▸ hSk), .inl⟩, hb, hf, by rw [if_pos hSk]; exact hn, hr, hl⟩
    rw [hSk] at q
    exact q
  | none =>
    dsimp only
    have hnk : k ∉ es.toList.map keyT := fun z => by
      obtain ⟨e, he, q⟩ := (goodT_mem (P := P) (w := w) g k).1 z
      have c := List.findIdx?_eq_none_iff.mp hfi e he
      rw [q] at c
      cases c
    have hSk : S k = false := by
      cases q : S k with
      | false => rfl
      | true => exact absurd ((hm k).1 q) hnk
    have hgw : ∀ (b : Bool) {s₁ : Shared} {Q' : Unit → Shared → Prop}, Q' () s₁ → wpAny (model P w) A (match b with | true => rule "set.scan.the-table-gave-way" | false => pure ()) Q' E s₁ :=
      fun b s₁ Q' q => by cases b <;> first | exact wpAny_pure q | exact wpAny_rule q
    have pm := layNew_perm t es ((PySem.strKind P w).hash k) (.str k tk)
    have hf1 := layNew_fits t es ((PySem.strKind P w).hash k) (.str k tk)
    have hr1 := layNew_ris t es ((PySem.strKind P w).hash k) (.str k tk) hr
    have hl1 := layNew_led t es ((PySem.strKind P w).hash k) (.str k tk)
    generalize layNew t es ((PySem.strKind P w).hash k) (.str k tk) = Z at pm hf1 hr1 hl1 ⊢
    obtain ⟨es1, t1, wasDummy, gave⟩ := Z
    dsimp only at pm hf1 hr1 hl1 ⊢
    rw [Array.toList_push] at pm
    have pc : es1.toList.Perm (((PySem.strKind P w).hash k, Value.str k tk) :: es.toList) := pm.trans (List.perm_append_singleton _ _)
    have pk : (es1.toList.map keyT).Perm (k :: es.toList.map keyT) := pc.map keyT
    have g1 : ∀ e ∈ es1.toList, GoodT w e := fun e he => by
      rcases List.mem_cons.mp (pc.mem_iff.mp he) with z | z
      · rw [z]; exact ⟨k, tk, rfl, rfl⟩
      · exact g e z
    have nd1 : (es1.toList.map keyT).Nodup := pk.nodup_iff.mpr (List.nodup_cons.mpr ⟨hnk, nd⟩)
    have m1 : ∀ i, (S i || decide (i = k)) = true ↔ i ∈ es1.toList.map keyT := fun i => by
      rw [Bool.or_eq_true, decide_eq_true_eq, hm i, pk.mem_iff, List.mem_cons]
      exact Or.comm
    have hsz : es1.size = n + 1 := by rw [← Array.length_toList, pc.length_eq, List.length_cons, Array.length_toList, hn]
    have hb1 : es1.size < scanBound := by rw [hsz]; exact room
    have hled : w.params.followText "set-order" = true ∨ t1.led = true := hl.imp id fun z => by rw [hl1]; exact z
    have fin : ∀ h', Heap.SameBut a s.heap h' → SetT w h' a (fun j => S j || decide (j = k)) es1.size → Q true { s with heap := h' } := fun h' sb r => by
      have q := hQ h' sb
      rw [hSk] at q
      rw [hsz] at r
      exact q r
    refine wpAny_bind (hgw _ ?_)
    split
    · refine wpAny_bind ?_
      rw [hashByValue_scannable 8 hsc]
      refine wpAny_pure ?_
      refine setT_tail ?_ ho hex hd g1 nd1 m1 hb1 ?_ ?_ ?_ ?_
      · intro b s₁ Q' q; cases b <;> first | exact wpAny_pure q | exact wpAny_rule q
      · first | (split <;> first | exact hf1 | exact SetTable.fits_plain_off hf1) | exact hf1
      · first | (split <;> exact hr1) | exact hr1
      · first | (split <;> exact hled) | exact hled
      · intro h' sb r; dsimp only; exact wpAny_pure (fin h' sb r)
    · refine wpAny_bind (wpAny_pure ?_)
      simp only [↓reduceIte]
      refine setT_tail ?_ ho hex hd g1 nd1 m1 hb1 hf1 hr1 hled ?_
      · intro b s₁ Q' q; cases b <;> first | exact wpAny_pure q | exact wpAny_rule q
      · intro h' sb r; dsimp only; exact wpAny_pure (fin h' sb r)
/-! ### set(xs) of a list of texts -/
theorem setT_fresh {h : Heap} {xs : List Str} (ho : h.get? a = some { cls := .type "set", dict := none, data := .set #[] 0 (.fresh 0 0 (!w.params.followText "set-order")) }) : SetT w h a (fun j => decide (j ∈ xs.take 0)) 0 :=
  ⟨_, #[], 0, _, ho, ⟨rfl, rfl, rfl⟩, rfl, (fun e he => by simp at he), (by simp), (fun k => by simp), (by decide), (by rfl), rfl, List.Pairwise.nil, by
    show _ ∨ (!w.params.followText "set-order") = true
    cases w.params.followText "set-order"
    · exact .inr rfl
    · exact .inl rfl⟩
theorem setT_fill {I : Addr} {fp wr : List Addr} {G : Array GenState → Array GenState → Prop} {n : Nat} {Pv : Nat → Value → Prop} {St : Nat → Shared → Prop} {R : Result → Shared → Prop}
    (W : WalksS P w A.in1 I fp wr G n Pv St) (S : Addr) (hSf : S ∉ fp) (xs : List Str) (hn : n = xs.length) (hb : xs.length + 1 < scanBound) (hval : ∀ i v, Pv i v → ∃ k t, xs[i]? = some k ∧ v = .str k t) :
    ∀ (k i : Nat) (s : Shared), n - i = k → i ≤ n → St i s → (∃ c, c ≤ i ∧ SetT w s.heap S (fun j => decide (j ∈ xs.take i)) c) →
      (∀ s' c, Moved (S :: wr) G s s' → c ≤ n → SetT w s'.heap S (fun j => decide (j ∈ xs)) c → R (.ok (.ret .none)) s') →
      codeAny (model P w) A (.builtin "set.update.loop" ⟨[.ref S, .ref I], []⟩) R s := by
  have hSw : S ∉ wr := fun h => hSf (W.sub _ h)
  have hsub : ∀ b ∈ wr, b ∈ S :: wr := fun b hb => List.mem_cons_of_mem _ hb
  intro k
  induction k with
  | zero =>
    intro i s hk' hi hst ⟨c, hc, hS⟩ hR
    have hin : i = n := by omega
    subst hin
    refine codeAny_builtin F.entry_set_update_loop ?_
    rw [Around.under_plainId F.plain_set_update_loop _]
    show wpAny _ A.in1 (pyNext (.ref I) >>= _) _ _ s
    refine wpAny_bind (W.done s _ _ hst fun s' hm => ?_)
    show wpAny _ A.in1 (ret Value.none) _ _ s'
    have e : xs.take i = xs := List.take_of_length_le (by omega)
    rw [e] at hS
    exact wpAny_pure (hR s' c (hm.mono hsub) hc (hS.at fun o e => hm.heap S o hSw e))
  | succ k ih =>
    intro i s hk' hi hst ⟨c, hc, hS⟩ hR
    have hlt : i < n := by omega
    refine codeAny_builtin F.entry_set_update_loop ?_
    rw [Around.under_plainId F.plain_set_update_loop _]
    show wpAny _ A.in1 (pyNext (.ref I) >>= _) _ _ s
    refine wpAny_bind (W.item i s _ _ hlt hst fun v s' hP hst' hm => ?_)
    obtain ⟨z, t, hz, rfl⟩ := hval i v hP
    have hS' : SetT w s'.heap S (fun j => decide (j ∈ xs.take i)) c := hS.at fun o e => hm.heap S o hSw e
    show wpAny _ A.in1 (holding [Value.str z t] (setAdd S (.str z t)) >>= _) _ _ s'
    refine wpAny_bind (wpAny_holding ?_)
    unfold setAdd
    refine wpAny_holding ?_
    refine wpAny_bind ((PySem.strKind P w).pyHash (k := z) (isT_is _ _ _ _) ?_)
    refine setT_add (s := { s' with toks := s'.toks + 1 }) hS' (by omega) fun h' hsb hS2 => ?_
    have hS3 : SetT w h' S (fun j => decide (j ∈ xs.take (i + 1))) (if decide (z ∈ xs.take i) = true then c else c + 1) := hS2.congr fun j => by
      rw [List.take_add_one, hz]
      simp [List.mem_append]
    have hc3 : (if decide (z ∈ xs.take i) = true then c else c + 1) ≤ i + 1 := by
      split <;> omega
    refine wpAny_pure ⟨plainId_quiet F.plain_set_update_loop _, ih (i + 1) _ (by omega) hlt (W.frame _ s' _ _ hst' (Nat.le_succ _) fun b hb o e => ?_) ⟨_, hc3, hS3⟩ fun s'' c2 hm'' hc'' hS'' => ?_⟩
    · rw [hsb.2 b (fun h : b = S => hSf (by rw [← h]; exact hb))]; exact e
    · refine hR s'' c2 (Moved.trans W.gtrans ((hm.mono hsub).then_heap (Nat.le_succ _) fun b o hb e => ?_) hm'') hc'' hS''
      rw [hsb.2 b (fun h : b = S => hb (by rw [h]; exact List.mem_cons_self))]; exact e
theorem strs_get : ∀ {us : List Value} {xs : List Str}, StrsAre us xs → ∀ (i : Nat) (v : Value), us[i]? = some v → ∃ k t, xs[i]? = some k ∧ v = .str k t
  | _, _, .nil, i, v, h => by simp at h
  | _, _, .cons k t r, 0, v, h => ⟨k, t, rfl, (Option.some.inj h).symm⟩
  | _, _, .cons k t r, i + 1, v, h => strs_get r i v h
theorem call_setT {l : Addr} {items : Array Value} (xs : List Str) {Q : Value → Shared → Prop} (hh : A.handled = none) (hl : s.heap.IsList l items) (hit : StrsAre items.toList xs) (hb : xs.length + 1 < scanBound)
    (h : ∀ (h' : Heap) (tk c : Nat), SetT w h' s.heap.objs.size (fun j => decide (j ∈ xs)) c → c ≤ xs.length → (∀ b o, s.heap.get? b = some o → h'.get? b = some o) → Q (.ref s.heap.objs.size) { s with heap := h', toks := tk }) :
    wpAny (model P w) A (call (.type "set") [.ref l]) Q E s := by
  have hisz : items.size = xs.length := by
    have q := StrsAre.len_eq hit
    rw [Array.length_toList] at q
    exact q
  obtain ⟨c, tl, hmro⟩ := F.called_set.mro
  have hmade := F.called_set.made
  have hsub := F.called_set.sub
  refine wpAny_call (codeAny_of_tree ?_)
  show wpAny _ _ (callAny (.type "set") _) _ _ _
  refine wpAny_pure ⟨Code.quiet_builtin _ (by decide +kernel), codeAny_builtin F.entry_type_call ?_⟩
  rw [Around.under_plain (weight_type_call_type "set" [.ref l] []) rfl]
  have h1 := F.called_set.notType
  have h2 := F.called_set.canCreate
  have hct := F.typeCall_set_1 (.ref l)
  repeat (any_goals (first | assumption | wp_step))
  refine codeAny_mono (code_set_led1 (.ref l) (E := E) (Q₁ := fun obj s₁ => obj = .ref s.heap.objs.size ∧ s₁ = { s with heap := s.heap.push { cls := .type "set", dict := none, data := .set #[] 0 (.fresh 0 0 (!w.params.followText "set-order")) } }) ⟨rfl, rfl⟩) fun r s₁ hr => ?_
  cases r with
  | error e => exact hr
  | ok fl =>
    cases fl with
    | ret obj =>
      obtain ⟨rfl, rfl⟩ := hr
      have hS : (s.heap.push { cls := .type "set", dict := none, data := .set #[] 0 (.fresh 0 0 (!w.params.followText "set-order")) }).get? s.heap.objs.size = some { cls := .type "set", dict := none, data := .set #[] 0 (.fresh 0 0 (!w.params.followText "set-order")) } := Heap.get?_push_size _ rfl
      have hT : Shared.TypeIs { s with heap := s.heap.push { cls := .type "set", dict := none, data := .set #[] 0 (.fresh 0 0 (!w.params.followText "set-order")) } } (.ref s.heap.objs.size) "set" := ⟨_, hS, rfl⟩
      have hli := F.called_set.init.lookup
      have hbi := F.called_set.init.bind (.ref s.heap.objs.size)
      repeat (any_goals (first | assumption | wp_step))
      refine codeAny_mono (codeAny_call_builtin (R := wants (fun r s₂ => r = .none ∧ ∃ h' tk c, s₂ = { s with heap := h', toks := tk } ∧ SetT w h' s.heap.objs.size (fun j => decide (j ∈ xs)) c ∧ c ≤ xs.length ∧
          (∀ b o, s.heap.get? b = some o → h'.get? b = some o)) E) F.called_set.init.plain F.entry_set_init (check_set_init_1 hT ?_)) fun r₂ s₂ hr₂ => ?_
      · obtain ⟨ol, hol, hcl, nl, hdl⟩ := hl
        obtain ⟨ocls, odict, odata, oslots⟩ := ol
        simp only at hcl hdl
        subst hcl; subst hdl
        have hol' : (s.heap.push { cls := .type "set", dict := none, data := .set #[] 0 (.fresh 0 0 (!w.params.followText "set-order")) }).get? l = some { cls := .type "list", dict := odict, data := .seq items nl, slots := oslots } := Heap.get?_push_of_some _ hol
        have hsls := F.sub_list_set
        have hslf := F.sub_list_frozenset
        have hne : (Value.type "list" == Value.type "dict") = false := by decide
        have hl1 : (s.heap.push { cls := .type "set", dict := none, data := .set #[] 0 (.fresh 0 0 (!w.params.followText "set-order")) }).IsList l items := ⟨_, hol', rfl, nl, rfl⟩
        unfold Builtin.«set.__init__» noKeywords Builtin.Frozenset.updateFrom
        generalize hPI : pyIter = PI
        wp_walk
        subst hPI
        refine wpAny_pyIter_list hl1 ?_
        refine wpAny_bind (wpAny_runValue ?_)
        have hlS : l < s.heap.objs.size := Heap.lt_size hol
        have hh3 : A.in1.in1.in1.handled = none := by simp [hh]
        have hneI : l ≠ (s.heap.push { cls := .type "set", dict := none, data := .set #[] 0 (.fresh 0 0 (!w.params.followText "set-order")) }).objs.size := by
          rw [Heap.size_push]; exact Nat.ne_of_lt (Nat.lt_succ_of_lt hlS)
        have hSf : s.heap.objs.size ∉ [(s.heap.push { cls := .type "set", dict := none, data := .set #[] 0 (.fresh 0 0 (!w.params.followText "set-order")) }).objs.size, l] := by
          rw [Heap.size_push]; simp only [List.mem_cons, List.mem_singleton, List.not_mem_nil, or_false, not_or]
          exact ⟨Nat.ne_of_lt (Nat.lt_succ_self _), Nat.ne_of_gt hlS⟩
        have hval : ∀ (i : Nat) (v : Value), items[i]? = some v → ∃ k t, xs[i]? = some k ∧ v = .str k t := fun i v hv => by
          exact strs_get hit i v (by rw [Array.getElem?_toList]; exact hv)
        refine setT_fill ((Walks.list hh3 _ l hneI items).toS) s.heap.objs.size
          hSf xs hisz hb hval (items.size - 0) 0 _ (by omega) (Nat.zero_le _)
          ⟨⟨_, Heap.get?_push_size _ rfl, rfl, rfl⟩, (hl1.push _)⟩ ?hS0 ?hR
        case hS0 =>
          have hget : ((s.heap.push { cls := .type "set", dict := none, data := .set #[] 0 (.fresh 0 0 (!w.params.followText "set-order")) }).push { cls := .type "list_iterator", data := .fields #[.ref l, .int 0 0] }).get? s.heap.objs.size
              = some { cls := .type "set", dict := none, data := .set #[] 0 (.fresh 0 0 (!w.params.followText "set-order")) } := Heap.get?_push_of_some _ hS
          exact ⟨0, Nat.le_refl 0, setT_fresh hget⟩
        case hR =>
          intro s' c' hm hc' hS'
          obtain ⟨h', g2, d', tk', os'⟩ := s'
          have eg : g2 = s.gens := hm.gens
          have ed : d' = s.drawn := hm.drawn
          have eo : os' = s.os := hm.os
          subst eg; subst ed; subst eo
          show wpAny _ _ _ _ _ _
          refine wpAny_pure ?_
          show wpAny _ _ (ret Value.none) _ _ _
          rw [hisz] at hc'
          refine wpAny_pure ⟨rfl, h', tk', c', rfl, hS', hc', fun b o e => ?_⟩
          have hb0 : b < s.heap.objs.size := Heap.lt_size e
          have hb1 : b ≠ s.heap.objs.size := Nat.ne_of_lt hb0
          have hb2 : b ≠ (s.heap.push { cls := .type "set", dict := none, data := .set #[] 0 (.fresh 0 0 (!w.params.followText "set-order")) }).objs.size := by
            rw [Heap.size_push]; exact Nat.ne_of_lt (Nat.lt_succ_of_lt hb0)
          exact hm.heap b o (by simp only [List.mem_cons, List.mem_singleton, List.not_mem_nil, or_false, not_or]; exact ⟨hb1, hb2⟩) (Heap.get?_push_of_some _ (Heap.get?_push_of_some _ e))
      · cases r₂ with
        | error e => exact hr₂
        | ok fl₂ =>
          cases fl₂ with
          | ret r =>
            obtain ⟨rfl, h', tk, c', rfl, hS', hc', hk'⟩ := hr₂
            repeat (any_goals (first | assumption | wp_step))
            exact h _ _ _ hS' hc' hk'
          | _ => exact hr₂.elim
    | _ => exact hr.elim
/-! ### sorted(set) -/
theorem strs_of : ∀ (l : List Value), (∀ v ∈ l, ∃ k tk, v = Value.str k tk) → StrsAre l (l.map fun v => keyT (0, v))
  | [], _ => .nil
  | v :: l, h => by
    obtain ⟨k, tk, rfl⟩ := h v List.mem_cons_self
    exact .cons k tk (strs_of l fun u hu => h u (List.mem_cons_of_mem _ hu))
theorem sorted_setT {Q : Value → Shared → Prop} (R : SetT w s.heap a S n) (hh : A.handled = none) (h64 : n < 64)
    (hQ : ∀ s' p (out : Array Value) (c : Nat) (ys : List Str), (∀ b o, s.heap.get? b = some o → s'.heap.get? b = some o) → s'.gens = s.gens → s'.os = s.os → s.heap.objs.size ≤ p →
      s'.heap.get? p = some (seqObj "list" out c) → StrsAre out.toList ys → sortedS ys = true → ys.Nodup → (∀ k, k ∈ ys ↔ S k = true) → ys.length = n → Q (.ref p) s') :
    wpAny (model P w) A (call (.builtin "sorted") [.ref a]) Q E s := by
  obtain ⟨o, es, ep, t, ho, hex, hd, g, nd, hm, hb, hf, hn, hr, hl⟩ := R
  refine Calls.call_function_entry kind_sorted plain_sorted entry_sorted (args_sorted1 _) ?_
  unfold Builtin.«sorted»
  refine wpAny_bind (m := checkCount "sorted" 1 1 _) (wpAny_pure ?_)
  refine wpAny_bind (collect_set (A := A.in1) hh ⟨o, ho, hex.1, hd⟩ hf hb hr hl fun s1 vs k1 hz g1 o1 pm => ?_)
  have hvl : vs.length = n := by rw [pm.length_eq, List.length_map, Array.length_toList]; exact hn
  have hI : StrsAre vs (vs.map fun v => keyT (0, v)) := strs_of vs fun v hv => by
    obtain ⟨e, he, q⟩ := List.mem_map.mp (pm.mem_iff.mp hv)
    obtain ⟨k, tk, h1, _⟩ := g e he
    exact ⟨k, tk, by rw [← q]; exact h1⟩
  have pk : (vs.map fun v => keyT (0, v)).Perm (es.toList.map keyT) := by
    have q := pm.map fun v => keyT (0, v)
    rw [List.map_map] at q
    exact q
  refine wpAny_bind (wpAny_newList ?_ (by rw [hvl, sizeLine_eq]; omega))
  have hoL : (s1.heap.push (seqObj "list" vs.toArray 0)).get? s1.heap.objs.size = some (seqObj "list" vs.toArray 0) := Heap.get?_push_size _ rfl
  refine wpAny_bind (wpAny_holding (wpAny_call_entry slot_list_sort ⟨_, hoL, rfl⟩ entry_list_sort (list_sort_treeK strKind_oneLt hoL hI.keysOf (fun v₁ v₂ rest e => keyKind_strs (by rw [← e]; exact hI)) (by rw [hvl]; exact h64) fun st' hp hs => ⟨_, rfl, ?_⟩) (args_list_sort _)))
  obtain ⟨ys, a1, a2, a3⟩ := sorted_out_str hI hp hs
  generalize (arrOf st').map (·.2) = out at a1 ⊢
  obtain ⟨c, hc⟩ := sortedHeap_at (vs := vs) (out := out) hoL
  have pn : ys.Perm (es.toList.map keyT) := a2.trans pk
  refine wpAny_pure ⟨_, rfl, hQ _ s1.heap.objs.size out c ys (fun b u e => ?_) g1 o1 hz hc a1 a3 (pn.nodup_iff.mpr nd) (fun k => by rw [pn.mem_iff, ← hm k]) ?_⟩
  · have q := k1 b u e
    have hlt := Heap.lt_size q
    show (sortedHeap (s1.heap.push (seqObj "list" vs.toArray 0)) s1.heap.objs.size vs out).get? b = some u
    rw [sortedHeap_old (Nat.ne_of_lt hlt) (by rw [size_push']; exact Nat.lt_succ_of_lt hlt)]
    exact Heap.get?_push_of_some _ q
  · rw [pn.length_eq, List.length_map, Array.length_toList]; exact hn
end
/-! ### over the layer -/
/-- the set of texts at a -/
def SetTO (w : World) (a : Addr) (S : Str → Bool) (n : Nat) : HO := .ext fun h => SetT w h a S n
section
variable {X : Cx}
theorem setTO_new {w : World} {P : Program} {H : Hp} {h : Heap} {a : Addr} {S : Str → Bool} {n : Nat} (R : SetT w h a S n) : ObjOk P w H h a (SetTO w a S n) := by
  have ⟨o, _, _, _, ho, _⟩ := R
  exact ⟨R, ⟨o, ho⟩, fun h1 h2 p k => SetT.at p k⟩
theorem setTO_get {pins : List (Addr × Obj)} {σ : L2.St} {H : Hp} {s : Shared} {a : Addr} {S : Str → Bool} {n : Nat} (I : Inv X pins σ H s) (ha : H a = some (SetTO X.w a S n)) : SetT X.w s.heap a S n := (I.hok a _ ha).1
/-- set(xs), a list of texts -/
def rSetT (K : PySem.W.Frag) (w : World) : List V → Hp → VK → Prop := fun vs H Q => ∃ (l : Addr) (xs : List Str), vs = [V.ref l] ∧ SqL K H l (xs.map V.str) ∧ xs.length < 64 ∧
  ∀ p n, H p = none → n ≤ xs.length → Q (.ref p) (upd H p (SetTO w p (fun j => decide (j ∈ xs)) n))
theorem cr_setT (hc : X.calm = true) : CallR X (.type "set") (rSetT X.K X.w) := by
  intro pins s σ H vs us Q I r h
  obtain ⟨l, xs, rfl, hs, h64, q⟩ := h
  obtain ⟨its, rv, hl, _⟩ := I.list hs
  rw [Vals.ref1 r]
  refine call_setT xs (I.ok.hd hc) hl.isList rv.strs (by show xs.length + 1 < 4096; omega) fun h' tk c R hc' k => ?_
  exact ⟨.ref _, upd H s.heap.objs.size (SetTO X.w s.heap.objs.size (fun j => decide (j ∈ xs)) c), I.laid (t' := tk) k (Nat.le_refl _) (setTO_new R), rfl, q _ c (I.hok.fresh (Nat.le_refl _)) hc'⟩
/-- sorted(set) -/
def rSortedT (w : World) : List V → Hp → VK → Prop := fun vs H Q => ∃ (a : Addr) (S : Str → Bool) (n : Nat), vs = [V.ref a] ∧ H a = some (SetTO w a S n) ∧ n < 64 ∧
  ∀ (ys : List Str) (p : Addr), sortedS ys = true → ys.Nodup → (∀ k, k ∈ ys ↔ S k = true) → ys.length = n → H p = none → Q (.ref p) (upd H p (.lst (ys.map V.str)))
theorem cr_sortedT (hc : X.calm = true) : CallR X (.builtin "sorted") (rSortedT X.w) := by
  intro pins s σ H vs us Q I r h
  obtain ⟨a, S, n, rfl, ha, h64, q⟩ := h
  have R := setTO_get I ha
  rw [Vals.ref1 r]
  refine sorted_setT R (I.ok.hd hc) h64 fun s' p out c ys k g o hp hg hi hs hnd hm hl => ?_
  have hlen : (ys.map V.str).length ≤ sizeLine := by rw [List.length_map, hl, sizeLine_eq]; omega
  have hn : H p = none := I.hok.fresh hp
  have J : Inv X pins σ (upd H p (.lst (ys.map V.str))) { s with heap := s'.heap, gens := s'.gens, drawn := s'.drawn, toks := s'.toks } :=
    I.call (ch := []) (Un.laid k hp hn) (I.hok.laid k hp ⟨hlen, out.toList, c, vals_of_strs hi, hg⟩) (by rw [g]; exact I.bare) (fun _ z => nomatch z)
  have e : s' = { s with heap := s'.heap, gens := s'.gens, drawn := s'.drawn, toks := s'.toks } := by
    cases s'
    cases s
    cases o
    rfl
  rw [e]
  exact ⟨.ref p, _, J, rfl, q ys p hs hnd hm hl hn⟩
end
end MsLow
end
section
/-! len of a set of texts; sorted of a list of streams. -/
namespace MsLow
open PySem PySem.Spec PyProof.Rows L2 Ms
section
variable {X : Cx}
/-- len(set) -/
def rLenT (w : World) : List V → Hp → VK → Prop := fun vs H Q => ∃ (a : Addr) (xs : List Str) (n : Nat), vs = [V.ref a] ∧ H a = some (SetTO w a (fun j => decide (j ∈ xs)) n) ∧ xs.Nodup ∧ Q (.int xs.length) H
theorem nodup_len_eq {l m : List Str} (hl : l.Nodup) (hm : m.Nodup) (h : ∀ x, x ∈ l ↔ x ∈ m) : l.length = m.length := by
  have a := nodup_sub_len hl fun x hx => (h x).mp hx
  have b := nodup_sub_len hm fun x hx => (h x).mpr hx
  omega
theorem cr_lenT : CallR X (.builtin "len") (rLenT X.w) := by
  intro pins s σ H vs us Q I r h
  obtain ⟨a, xs, n, rfl, ha, nd, q⟩ := h
  have R := setTO_get I ha
  rw [Vals.ref1 r]
  obtain ⟨o, es, ep, t, ho, hex, hd, g, nde, hm, hb, hf, hn, hr, hl⟩ := R
  have e : es.size = xs.length := by
    have z := nodup_len_eq nde nd fun x => (hm x).symm.trans (by simp)
    rw [List.length_map, Array.length_toList] at z
    exact z
  have hb' : es.size < 4096 := hb
  refine call_len_set ho hex hd hf (by omega) ⟨.int xs.length, H, I.tok _, ⟨_, by rw [e]⟩, q⟩
/-! ### streams as values -/
def smV (e : Sm Str) : List V := [.str e.nm, .str e.tl, .str e.hd, .int e.lo, .int e.hi]
def smD (e : Sm Str) : PyData := .tuple [.str e.nm, .str e.tl, .str e.hd, .int e.lo, .int e.hi]
/-- streams at their addresses -/
def SmsAt (H : Hp) (L : List (Addr × Sm Str)) : Prop := ∀ q ∈ L, H q.1 = some (.tup (smV q.2))
theorem sm_reads {pins : List (Addr × Obj)} {σ : L2.St} {H : Hp} {s : Shared} (I : Inv X pins σ H s) {a : Addr} {e : Sm Str} (h : H a = some (.tup (smV e))) : ∃ as, Reads s.heap (.ref a) (smD e) as := by
  obtain ⟨_, its, rv, o, ho, hc, n, hd⟩ := I.hok a _ h
  cases rv with
  | cons r1 rv => cases rv with
    | cons r2 rv => cases rv with
      | cons r3 rv => cases rv with
        | cons r4 rv => cases rv with
          | cons r5 rv =>
            cases rv
            obtain ⟨t1, rfl⟩ := r1
            obtain ⟨t2, rfl⟩ := r2
            obtain ⟨t3, rfl⟩ := r3
            obtain ⟨t4, rfl⟩ := r4
            obtain ⟨t5, rfl⟩ := r5
            exact ⟨_, .tuple ho hc hd (.cons (.str _ _) (.cons (.str _ _) (.cons (.str _ _) (.cons (.int _ _) (.cons (.int _ _) .nil)))))⟩
theorem each_refs : ∀ (L : List (Addr × Sm Str)), PySem.W.EachIs (fun (v : Value) (b : Addr × Sm Str) => v = Value.ref b.1) (L.map fun q => Value.ref q.1) L
  | [] => .nil
  | q :: L => .cons rfl (each_refs L)
theorem refs_each : ∀ {vs : List Value} {L : List (Addr × Sm Str)}, PySem.W.EachIs (fun (v : Value) (b : Addr × Sm Str) => v = Value.ref b.1) vs L → vs = L.map fun q => Value.ref q.1
  | _, _, .nil => rfl
  | _, _, .cons h t => by rw [h, refs_each t] <;> rfl
theorem vals_refs : ∀ (L : List (Addr × Sm Str)), Vals (L.map fun q => V.ref q.1) (L.map fun q => Value.ref q.1)
  | [] => .nil
  | q :: L => .cons rfl (vals_refs L)
theorem refs_vals : ∀ {L : List (Addr × Sm Str)} {us : List Value}, Vals (L.map fun q => V.ref q.1) us → us = L.map fun q => Value.ref q.1
  | [], _, .nil => rfl
  | q :: L, _, .cons h t => by
    have h' : _ = Value.ref q.1 := h
    rw [h', refs_vals t] <;> rfl
/-- sorted(streams): some arrangement, a new list -/
def rSortSm (K : PySem.W.Frag) : List V → Hp → VK → Prop := fun vs H Q => ∃ (a : Addr) (L : List (Addr × Sm Str)), vs = [V.ref a] ∧ SqL K H a (L.map fun q => V.ref q.1) ∧ SmsAt H L ∧ L.length ≤ 1000 ∧
  ∀ (L' : List (Addr × Sm Str)) (p : Addr), L'.Perm L → H p = none → Q (.ref p) (upd H p (.lst (L'.map fun q => V.ref q.1)))
theorem cr_sortSm (hu : X.A.units + 64 < cLine) : CallR X (.builtin "sorted") (rSortSm X.K) := by
  intro pins s σ H vs us Q I r h
  obtain ⟨a, L, rfl, hs, hL, hlen, q⟩ := h
  obtain ⟨its, rv, hl, _⟩ := I.list hs
  rw [Vals.ref1 r]
  have ei := refs_vals rv
  subst ei
  refine PySem.W.sorted_data (enc := fun q : Addr × Sm Str => smD q.2) (R := fun v b => v = Value.ref b.1) (bs := L) hl.isList (each_refs L) ?_ (PySem.W.AllAlike.of fun b b' => ?_) (PySem.W.Sortable.tuples fun b => ⟨_, _, rfl⟩) (Nat.le_of_lt (small1000 hlen)) (fun b _ => ?_) fun out ho eo => ?_
  · have go : ∀ (M : List (Addr × Sm Str)), (∀ q ∈ M, H q.1 = some (.tup (smV q.2))) → PySem.W.EachIs (fun (v : Value) (b : Addr × Sm Str) => ∃ as, Reads s.heap v (smD b.2) as) (M.map fun q => Value.ref q.1) M := by
      intro M
      induction M with
      | nil => intro _; exact .nil
      | cons q M ih => intro h; exact .cons (sm_reads I (h q List.mem_cons_self)) (ih fun x hx => h x (List.mem_cons_of_mem _ hx))
    exact go L hL
  · simp [smD, PySem.W.alike, PySem.W.alikeAll]
  · have z : (smD b.2).depth ≤ 2 := by simp [smD, PyData.depth, PyData.depthAll]
    omega
  · have pm : (L.mergeSort (PySem.W.dataLe false fun q : Addr × Sm Str => smD q.2)).Perm L := List.mergeSort_perm _ _
    generalize L.mergeSort (PySem.W.dataLe false fun q : Addr × Sm Str => smD q.2) = L' at eo pm
    have eo' := refs_each eo
    subst eo'
    obtain ⟨ep, he'⟩ := PyProof.Rows.sortedAll_at s.heap (L.map fun q => Value.ref q.1) (L'.map fun q => Value.ref q.1).toArray
    have hlen' : (L'.map fun q => V.ref q.1).length ≤ sizeLine := by rw [List.length_map, pm.length_eq]; exact Nat.le_of_lt (small1000 hlen)
    exact ⟨.ref _, upd H (s.heap.objs.size + 1) (.lst (L'.map fun q => V.ref q.1)), I.laid (t' := s.toks) (fun _ _ => PyProof.Rows.sortedAll_old) (Nat.le_succ _) ⟨hlen', _, ep, vals_refs L', he'⟩, rfl, q L' _ pm (I.hok.fresh (Nat.le_succ _))⟩
end
end MsLow
end
section
/-! name = {k: v for ..}, the name a plain local one. -/
namespace MsLow
open PySem PySem.Spec PyProof.Rows L2
section
variable {X : Cx}
theorem ps_setDc {i : Nat} {y : Str} {py : Pos} {kx vx tg iter : Expr} {ifs : List Expr} {scope : Scope} {own : List (Str × Nat)} {pos spos : Pos} {wi : TI} {g : TG} {tt : TT} {tk tv : TE} (hc : X.calm = true) (hN : X.N.Nodup) (hy : X.N[i]? = some y) (hyl : X.env.scope.names.lookup y = some .local)
    (hsw : swapsWith (.DictComp kx vx [⟨tg, iter, ifs, 0⟩] scope pos) (some (.Name y py)) spos.line X.env = pure true) (hi : PI X tg iter wi) (ok : BlkOk X.N X.env.scope scope own)
    (hg : ∀ (s : Shared) (H : Hp) (C : Addr) (cl : List (Str × Addr)) (fp : List Addr), PG (X.blk s H scope (compEnvC scope cl C X.env) fp) tg g) (ht : ∀ (s : Shared) (H : Hp) (C : Addr) (cl : List (Str × Addr)) (fp : List Addr), PTs (X.blk s H scope (compEnvC scope cl C X.env) fp) ifs tt)
    (hk : ∀ (s : Shared) (H : Hp) (C : Addr) (cl : List (Str × Addr)) (fp : List Addr), PE (X.blk s H scope (compEnvC scope cl C X.env) fp) kx tk)
    (he : ∀ (s : Shared) (H : Hp) (C : Addr) (cl : List (Str × Addr)) (fp : List Addr), PE (X.blk s H scope (compEnvC scope cl C X.env) fp) vx tv) (hs : ∀ x, foldedSetIterable iter X.env x = pure x := by intro _; rfl) :
    PS X (.Assign [.Name y py] (.DictComp kx vx [⟨tg, iter, ifs, 0⟩] scope pos) spos) (tAsg (tDc wi g tt tk tv (own.map (·.2))) (gName i)) := by
  refine ⟨fun pins s σ H D I h => ?_⟩
  rw [exec_Assign_Name_used _ _ _ _ hsw]
  refine wpAny_bind (wpAny_standAt (wpAny_bind ?_))
  show wpAny _ X.A (do let _ ← comprehension (.DictComp kx vx [⟨tg, iter, ifs, 0⟩] scope pos) scope X.env (firstIterPos [⟨tg, iter, ifs, 0⟩] pos) newDict false (eval iter X.env) (some (assign (.Name y py) X.env))) _ _ s
  have h' : tDc wi g tt tk tv (own.map (·.2)) σ H (fun x H1 => gName i x σ H1 D.nx) := h
  refine wpAny_bind (thn (dc_core (Qf := fun _ s' => SP X pins D .next s') hc hN I hi ok hg ht hk he hs h' fun L C s' m H' I' q hn f => ?_) fun _ s' hq => wpAny_pure (wpAny_pure hq))
  show wpAny _ _ (assign (.Name y py) X.env (.ref L)) _ _ _
  refine wpAny_assign_Name (store_ok2 (v := V.ref L) I' hN hy (.inl hyl) rfl (fun s2 I2 ⟨a, sb, ha⟩ => ?_) (.inr hyl))
  obtain ⟨f0, f1, f2, f3, f4, f5⟩ := f
  have haC : C ≠ a := by
    rcases ha with z | z
    · rw [z]; exact f1
    · exact fun e => f4 y a z e.symm
  refine ⟨m, hn.sameBut sb haC, fun h3 sb3 => ?_⟩
  exact ⟨_, H', I2.turned (t' := s2.toks) (fun b o hb e => (sb3.2 b hb).trans e) f0 f1 f3 f4 f5, q⟩
theorem sw_trueD {kx vx : Expr} {gs : List Comprehension} {scope : Scope} {pos py : Pos} {y : Str} {l : Nat} {env : Env} (hk : env.scope.kind = .function) (hy : env.scope.names.lookup y = some .local) (hl : (py.line == pos.line) = true)
    (ha : (scope.names.any fun (n, k) => n == y && (k == .local || k == .cell)) = false) : swapsWith (.DictComp kx vx gs scope pos) (some (.Name y py)) l env = pure true := by
  have ky : env.kindOf y = some .local := hy
  have kb : env.blockKind = .function := by
    unfold Env.blockKind
    rw [hk]
    all_goals rfl
  show (pure (env.blockKind == .function && env.kindOf y == some .local && py.line == pos.line && !(scope.names.any fun (n, k) => n == y && (k == .local || k == .cell))) : Sem Bool) = pure true
  rw [ky, kb, hl, ha]
  rfl
end
end MsLow
end
section
/-! The text by places; what is used again and again. -/
namespace Msr
open PySem PySem.Spec PyProof.Rows L2 Ms MsLow
/-! ### the text by places -/
def top (i : Nat) : Stmt := PySem.Challenge.pw_metersure_k78_whole_meters_that_may_be_l.main.body.getD i (.Pass ⟨0, 0, 0, 0⟩)
abbrev sIsName : Stmt := top 10
abbrev sAreNames : Stmt := top 11
abbrev sIsStream : Stmt := top 12
abbrev sInit : Stmt := inClass (top 13) 0
abbrev sKnots : Stmt := inClass (top 13) 1
abbrev sStreams : Stmt := inClass (top 13) 2
abbrev sNames : Stmt := inClass (top 13) 3
abbrev sNamed : Stmt := inClass (top 13) 4
abbrev sCheck : Stmt := top 15
abbrev sEnds : Stmt := top 16
abbrev sTied : Stmt := top 17
abbrev sLots : Stmt := top 18
abbrev sSteps : Stmt := top 19
abbrev sLevels : Stmt := top 20
abbrev sRing : Stmt := top 21
abbrev sBridges : Stmt := top 22
abbrev sMerged : Stmt := top 23
abbrev sUnm : Stmt := top 25
abbrev sUntold : Stmt := top 26
abbrev sIsTold : Stmt := top 27
abbrev sToldS : Stmt := top 28
abbrev sLeast : Stmt := top 30
abbrev sLength : Stmt := top 31
abbrev sFound : Stmt := top 32
abbrev sMended : Stmt := top 33
abbrev sRow : Stmt := top 35
abbrev sNumbers : Stmt := top 36
abbrev sPlant : Stmt := top 37
abbrev sMade : Stmt := top 38
abbrev sMost : Stmt := top 39
abbrev sLotsOf : Stmt := top 40
abbrev sAtLeast : Stmt := top 41
abbrev sLaw : Stmt := top 42
/-! ### heaps -/
theorem same_upd {H : Hp} {p : Addr} {o : HO} (h : H p = none) : Same H (upd H p o) := fun b x e => by
  rw [upd_ne (ne_of_none e h)]
  exact e
/-- a new object: the heap behind it by what is known of it -/
@[elab_as_elim]
theorem gen {C : Hp → Prop} {H : Hp} {p : Addr} (np : H p = none) (o : HO) (h : ∀ H1, Same H H1 → H1 p = some o → C H1) : C (upd H p o) := h _ (same_upd np) upd_same
/-- the heap without D -/
def wo (H : Hp) (D : Addr) : Hp := fun b => if b = D then none else H b
theorem wo_upd {H : Hp} {D : Addr} {o : HO} : wo (upd H D o) D = wo H D := by
  funext b
  unfold wo upd
  split <;> rfl
theorem wo_same {H : Hp} {D : Addr} : Same (wo H D) H := fun b o e => by
  unfold wo at e
  split at e
  · cases e
  · exact e
theorem same_wo {H H' : Hp} {D : Addr} (s : Same H H') : Same (Msr.wo H D) (Msr.wo H' D) := fun b o e => by
  unfold Msr.wo at e ⊢
  split at e
  · cases e
  · rename_i h
    rw [if_neg h]
    exact s b o e
theorem same_to_wo {H H' : Hp} {D : Addr} (s : Same H H') (h : H D = none) : Same H (Msr.wo H' D) := fun b o e => by
  unfold Msr.wo
  rw [if_neg (ne_of_none e h)]
  exact s b o e
/-- a change at D, which H1 does not know -/
theorem same_at {H1 H : Hp} {D : Addr} {o : HO} (s : Same H1 H) (h : H1 D = none) : Same H1 (upd H D o) := fun b x e => by
  rw [upd_ne (ne_of_none e h)]
  exact s b x e
theorem sq {K : PySem.W.Frag} {H : Hp} {a : Addr} {xs : List V} (h : H a = some (.lst xs)) : SqL K H a xs := .inl (.inl h)
theorem st {K : PySem.W.Frag} {H : Hp} {a : Addr} {xs : List V} (h : H a = some (.tup xs)) : SqT K H a xs := .inl (.inl h)
theorem stL {K : PySem.W.Frag} {H H' : Hp} {a : Addr} {xs : List V} (s : Same H H') (h : SqT K H a xs) : SqT K H' a xs := by
  rcases h with (h | ⟨o, h⟩) | h
  · exact .inl (.inl (s _ _ h))
  · exact .inl (.inr ⟨o, s _ _ h⟩)
  · exact .inr h
/-- a comprehension: R i acc H tells what stands behind i turns; H is the heap without the new list -/
theorem lc_gen {J : It} {n : Nat} {G : Hp → Prop} {Y : Nat → Hp → V → Hp → Prop} (w : Walk J n G Y) {g : TG} {tt : TT} {te : TE} {vs : List Nat} {σ : L2.St} {H1 : Hp} {D : Addr} {Qd : Hp → Prop} (hD : H1 D = none) (hn : n ≤ 1000)
    (hG : ∀ H, Same H1 H → G H) (R : Nat → List V → Hp → Prop) (R0 : R 0 [] H1) (Rm : ∀ i acc H H', Same H H' → R i acc H → R i acc H') (Rl : ∀ i acc H, R i acc H → acc.length ≤ i)
    (hs : ∀ i x H H' acc, i < n → Same H1 H → H D = some (.lst acc) → R i acc (wo H D) → Y i H x H' → ∀ N : Hp → Prop,
      (∀ y H4, Same H H4 → R (i + 1) (acc ++ [y]) (wo H4 D) → ∃ acc, H4 D = some (.lst acc) ∧ acc.length < sizeLine ∧ N (upd H4 D (.lst (acc ++ [y])))) → (∀ H3, Same H H3 → R (i + 1) acc (wo H3 D) → N H3) →
      g x (wipe σ vs) H' fun σ2 H2 => wipe σ2 vs = wipe σ vs ∧ tt σ2 H2 fun b H3 => if b = true then te σ2 H3 fun y H4 => ∃ acc, H4 D = some (.lst acc) ∧ acc.length < sizeLine ∧ N (upd H4 D (.lst (acc ++ [y]))) else N H3)
    (hd : ∀ H acc, Same H1 H → H D = some (.lst acc) → R n acc (wo H D) → Qd H) :
    ∃ W : Nat → Nat → Hp → Prop, (∃ m, W 0 m (upd H1 D (.lst []))) ∧ ∀ i m H, W i m H →
      (J.stop i H ∧ Qd H) ∨ (J.go i H ∧ ∃ Nx : Hp → Prop, (∀ H', Nx H' → ∃ m', m' < m ∧ W (i + 1) m' H') ∧ ∀ x H', J.yld i H x H' → g x (wipe σ vs) H' fun σ2 H2 => wipe σ2 vs = wipe σ vs ∧ tt σ2 H2 fun b H3 =>
        if b = true then te σ2 H3 fun y H4 => ∃ acc, H4 D = some (.lst acc) ∧ acc.length < sizeLine ∧ Nx (upd H4 D (.lst (acc ++ [y]))) else Nx H3) := by
  refine lc_it w (fun i H => i ≤ n ∧ Same H1 H ∧ ∃ acc, H D = some (.lst acc) ∧ R i acc (wo H D)) ⟨Nat.zero_le _, same_upd hD, [], upd_same, ?_⟩ (fun i H hi p => hG H p.2.1) ?_ ?_
  · rw [wo_upd]
    exact Rm _ _ _ _ (same_to_wo (Same.refl _) hD) R0
  · rintro i x H H' hi ⟨_, s, acc, hacc, r⟩ y
    refine hs i x H H' acc hi s hacc r y _ (fun y H4 s4 r4 => ⟨acc, s4 _ _ hacc, small1000 (by have := Rl _ _ _ r; omega), hi, same_at (s.trans s4) hD, acc ++ [y], upd_same, ?_⟩) fun H3 s3 r3 => ⟨hi, s.trans s3, acc, s3 _ _ hacc, r3⟩
    rw [wo_upd]
    exact r4
  · rintro H ⟨_, s, acc, hacc, r⟩
    exact hd H acc s hacc r
/-- .. without a test -/
theorem lc_all {J : It} {n : Nat} {G : Hp → Prop} {Y : Nat → Hp → V → Hp → Prop} (w : Walk J n G Y) {g : TG} {te : TE} {vs : List Nat} {σ : L2.St} {H1 : Hp} {D : Addr} {Qd : Hp → Prop} (hD : H1 D = none) (hn : n ≤ 1000)
    (hG : ∀ H, Same H1 H → G H) (R : Nat → List V → Hp → Prop) (R0 : R 0 [] H1) (Rm : ∀ i acc H H', Same H H' → R i acc H → R i acc H') (Rl : ∀ i acc H, R i acc H → acc.length ≤ i)
    (hs : ∀ i x H H' acc, i < n → Same H1 H → H D = some (.lst acc) → R i acc (wo H D) → Y i H x H' → ∀ N : Hp → Prop,
      (∀ y H4, Same H H4 → R (i + 1) (acc ++ [y]) (wo H4 D) → ∃ acc, H4 D = some (.lst acc) ∧ acc.length < sizeLine ∧ N (upd H4 D (.lst (acc ++ [y])))) →
      g x (wipe σ vs) H' fun σ2 H2 => wipe σ2 vs = wipe σ vs ∧ te σ2 H2 fun y H4 => ∃ acc, H4 D = some (.lst acc) ∧ acc.length < sizeLine ∧ N (upd H4 D (.lst (acc ++ [y]))))
    (hd : ∀ H acc, Same H1 H → H D = some (.lst acc) → R n acc (wo H D) → Qd H) :
    ∃ W : Nat → Nat → Hp → Prop, (∃ m, W 0 m (upd H1 D (.lst []))) ∧ ∀ i m H, W i m H →
      (J.stop i H ∧ Qd H) ∨ (J.go i H ∧ ∃ Nx : Hp → Prop, (∀ H', Nx H' → ∃ m', m' < m ∧ W (i + 1) m' H') ∧ ∀ x H', J.yld i H x H' → g x (wipe σ vs) H' fun σ2 H2 => wipe σ2 vs = wipe σ vs ∧ tYes σ2 H2 fun b H3 =>
        if b = true then te σ2 H3 fun y H4 => ∃ acc, H4 D = some (.lst acc) ∧ acc.length < sizeLine ∧ Nx (upd H4 D (.lst (acc ++ [y]))) else Nx H3) :=
  lc_gen w hD hn hG R R0 Rm Rl (fun i x H H' acc hi s1 ha r y N kT _ => hs i x H H' acc hi s1 ha r y N kT) hd
/-- a dict comprehension likewise -/
theorem dc_gen {J : It} {n : Nat} {G : Hp → Prop} {Y : Nat → Hp → V → Hp → Prop} (w : Walk J n G Y) {g : TG} {tt : TT} {tk tv : TE} {vs : List Nat} {σ : L2.St} {H1 : Hp} {D : Addr} {Qd : Hp → Prop} (hD : H1 D = none) (hn : n ≤ 1000)
    (hG : ∀ H, Same H1 H → G H) (R : Nat → List (Key × V) → Hp → Prop) (R0 : R 0 [] H1) (Rm : ∀ i acc H H', Same H H' → R i acc H → R i acc H') (Rl : ∀ i acc H, R i acc H → acc.length ≤ i)
    (hs : ∀ i x H H' acc, i < n → Same H1 H → H D = some (.dK acc) → R i acc (wo H D) → Y i H x H' → ∀ N : Hp → Prop,
      (∀ k z H5, Same H H5 → R (i + 1) (putK acc k z) (wo H5 D) → ∃ kvs k', kV k = kV k' ∧ H5 D = some (.dK kvs) ∧ kvs.length < sizeLine ∧ N (upd H5 D (.dK (putK kvs k' z)))) →
      g x (wipe σ vs) H' fun σ2 H2 => wipe σ2 vs = wipe σ vs ∧ tt σ2 H2 fun b H3 => if b = true then tk σ2 H3 fun y H4 => tv σ2 H4 fun z H5 => ∃ kvs k, y = kV k ∧ H5 D = some (.dK kvs) ∧ kvs.length < sizeLine ∧ N (upd H5 D (.dK (putK kvs k z))) else N H3)
    (hd : ∀ H acc, Same H1 H → H D = some (.dK acc) → R n acc (wo H D) → Qd H) :
    ∃ W : Nat → Nat → Hp → Prop, (∃ m, W 0 m (upd H1 D (.dK []))) ∧ ∀ i m H, W i m H →
      (J.stop i H ∧ Qd H) ∨ (J.go i H ∧ ∃ Nx : Hp → Prop, (∀ H', Nx H' → ∃ m', m' < m ∧ W (i + 1) m' H') ∧ ∀ x H', J.yld i H x H' → g x (wipe σ vs) H' fun σ2 H2 => wipe σ2 vs = wipe σ vs ∧ tt σ2 H2 fun b H3 =>
        if b = true then tk σ2 H3 fun y H4 => tv σ2 H4 fun z H5 => ∃ kvs k, y = kV k ∧ H5 D = some (.dK kvs) ∧ kvs.length < sizeLine ∧ Nx (upd H5 D (.dK (putK kvs k z))) else Nx H3) := by
  refine ⟨fun i m H => m = n - i ∧ i ≤ n ∧ Same H1 H ∧ ∃ acc, H D = some (.dK acc) ∧ R i acc (wo H D), ⟨n, by simp, Nat.zero_le _, same_upd hD, [], upd_same, ?_⟩, ?_⟩
  · rw [wo_upd]
    exact Rm _ _ _ _ (same_to_wo (Same.refl _) hD) R0
  rintro i m H ⟨rfl, hi, s, acc, hacc, r⟩
  have q := hG H s
  by_cases hlt : i < n
  · refine .inr ⟨w.goes i H hlt q, fun H => i + 1 ≤ n ∧ Same H1 H ∧ ∃ acc, H D = some (.dK acc) ∧ R (i + 1) acc (wo H D), fun H' p' => ⟨n - (i + 1), by omega, rfl, p'⟩, fun x H' y => ?_⟩
    refine hs i x H H' acc hlt s hacc r (w.yields i H x H' hlt q y) _ fun k z H5 s5 r5 => ⟨acc, k, rfl, s5 _ _ hacc, small1000 (by have := Rl _ _ _ r; omega), hlt, same_at (s.trans s5) hD, putK acc k z, upd_same, ?_⟩
    rw [wo_upd]
    exact r5
  · have e : i = n := by omega
    subst e
    exact .inl ⟨w.stops H q, hd H acc s hacc r⟩
theorem dc_all {J : It} {n : Nat} {G : Hp → Prop} {Y : Nat → Hp → V → Hp → Prop} (w : Walk J n G Y) {g : TG} {tk tv : TE} {vs : List Nat} {σ : L2.St} {H1 : Hp} {D : Addr} {Qd : Hp → Prop} (hD : H1 D = none) (hn : n ≤ 1000)
    (hG : ∀ H, Same H1 H → G H) (R : Nat → List (Key × V) → Hp → Prop) (R0 : R 0 [] H1) (Rm : ∀ i acc H H', Same H H' → R i acc H → R i acc H') (Rl : ∀ i acc H, R i acc H → acc.length ≤ i)
    (hs : ∀ i x H H' acc, i < n → Same H1 H → H D = some (.dK acc) → R i acc (wo H D) → Y i H x H' → ∀ N : Hp → Prop,
      (∀ k z H5, Same H H5 → R (i + 1) (putK acc k z) (wo H5 D) → ∃ kvs k', kV k = kV k' ∧ H5 D = some (.dK kvs) ∧ kvs.length < sizeLine ∧ N (upd H5 D (.dK (putK kvs k' z)))) →
      g x (wipe σ vs) H' fun σ2 H2 => wipe σ2 vs = wipe σ vs ∧ tk σ2 H2 fun y H4 => tv σ2 H4 fun z H5 => ∃ kvs k, y = kV k ∧ H5 D = some (.dK kvs) ∧ kvs.length < sizeLine ∧ N (upd H5 D (.dK (putK kvs k z))))
    (hd : ∀ H acc, Same H1 H → H D = some (.dK acc) → R n acc (wo H D) → Qd H) :
    ∃ W : Nat → Nat → Hp → Prop, (∃ m, W 0 m (upd H1 D (.dK []))) ∧ ∀ i m H, W i m H →
      (J.stop i H ∧ Qd H) ∨ (J.go i H ∧ ∃ Nx : Hp → Prop, (∀ H', Nx H' → ∃ m', m' < m ∧ W (i + 1) m' H') ∧ ∀ x H', J.yld i H x H' → g x (wipe σ vs) H' fun σ2 H2 => wipe σ2 vs = wipe σ vs ∧ tYes σ2 H2 fun b H3 =>
        if b = true then tk σ2 H3 fun y H4 => tv σ2 H4 fun z H5 => ∃ kvs k, y = kV k ∧ H5 D = some (.dK kvs) ∧ kvs.length < sizeLine ∧ Nx (upd H5 D (.dK (putK kvs k z))) else Nx H3) :=
  dc_gen w hD hn hG R R0 Rm Rl (fun i x H H' acc hi s1 ha r y N k => hs i x H H' acc hi s1 ha r y N k) hd
/-! ### tests whose answer is known -/
theorem itD {c : Prop} [Decidable c] {A B : Prop} (hc : c) (h : A) : if decide c = true then A else B := by
  rw [if_pos (decide_eq_true hc)]
  exact h
theorem itN {c : Prop} [Decidable c] {A B : Prop} (hc : ¬ c) (h : B) : if decide c = true then A else B := by
  rw [if_neg (by simpa using hc)]
  exact h
theorem itD' {c : Prop} [Decidable c] {A B : Prop} (hc : c) (h : B) : if (!decide c) = true then A else B := by
  rw [if_neg (by simpa using hc)]
  exact h
theorem itN' {c : Prop} [Decidable c] {A B : Prop} (hc : ¬ c) (h : A) : if (!decide c) = true then A else B := by
  rw [if_pos (by simpa using hc)]
  exact h
theorem itB {c : Bool} {A B : Prop} (h1 : c = true → A) (h2 : c = false → B) : if c = true then A else B := by
  cases c with
  | true => exact iteT (h1 rfl)
  | false => exact iteF (h2 rfl)
/-! ### defs that are called -/
section
variable (P : Program) (w : World) (K : PySem.W.Frag) (mg : Str → Option Value) (base : Heap)
/-- a def of the module -/
structure Cal (k : Nat) (x : Str) (ps : List Str) (sp : Sp) (f : Addr) (fd : FuncData) : Prop where
  ok : FnOk P w K mg base CX0 k f fd ps sp
  mg_ : mg x = some (.ref f)
  kp : PySem.W.keepIn K (.ref f) = true
  bd : Binds K fd ps []
/-- a method of the class at C -/
structure Met (C : Addr) (k : Nat) (x : Str) (ps : List Str) (sp : Sp) (f : Addr) (fd : FuncData) : Prop where
  ok : FnOk P w K mg base CX0 k f fd ps sp
  mt : Meth K C x f
  bd : Binds K fd ps []
/-- a property -/
structure Prp (C : Addr) (k : Nat) (x : Str) (sp : Sp) (p f : Addr) (fd : FuncData) : Prop where
  ok : FnOk P w K mg base CX0 k f fd ["self"] sp
  pr : PropOf K C x p f
  bd : Binds K fd ["self"] []
end
abbrev letters : Str := "abcdefghijklmnopqrstuvwxyz0123456789"
/-- what the walk asks of the top -/
structure Txt (K : PySem.W.Frag) (mg : Str → Option Value) (C : Addr) : Prop where
  cl : Cls K C
  nK : NoAttr K C "_knots"
  nS : NoAttr K C "_streams"
  mgC : mg "Plant" = some (.ref C)
  len : mg "len" = none
  all : mg "all" = none
  any : mg "any" = none
  set : mg "set" = none
  sorted : mg "sorted" = none
  list : mg "list" = none
  max : mg "max" = none
  min : mg "min" = none
  abs : mg "abs" = none
  int : mg "int" = none
  range : mg "range" = none
  lts : ∃ t, mg "LETTERS" = some (.str letters t)
  mf : ∃ t, mg "MOST_FLOW" = some (.int 1000000 t)
  mkn : ∃ t, mg "MOST_KNOTS" = some (.int 24 t)
  ms : ∃ t, mg "MOST_STREAMS" = some (.int 60 t)
/-! ### names -/
/-- a name -/
def NameOk (x : Str) : Prop := 1 ≤ x.length ∧ x.length ≤ 12 ∧ ∀ c ∈ x.cps.toList, c ∈ letters.cps.toList
end Msr
end
section
/-! What each def promises. -/
namespace Msr
open PySem PySem.Spec PyProof.Rows L2 Ms MsLow
/-! ### plants -/
theorem ksne : ¬ (("_knots" : Str) = "_streams") := by decide +kernel
def pflds (kl sl : Addr) : List (Str × V) := putF "_streams" (.ref sl) (putF "_knots" (.ref kl) [])
theorem pflds_eq (kl sl : Addr) : pflds kl sl = ([("_knots", V.ref kl), ("_streams", V.ref sl)] : List (Str × V)) := by
  show (if ("_knots" : Str) = "_streams" then [(("_knots" : Str), V.ref sl)] else (("_knots" : Str), V.ref kl) :: putF "_streams" (V.ref sl) []) = ([("_knots", V.ref kl), ("_streams", V.ref sl)] : List (Str × V))
  rw [if_neg ksne]
  all_goals rfl
theorem pflds_k (kl sl : Addr) : (pflds kl sl).lookup ("_knots" : Str) = some (.ref kl) := by
  unfold pflds
  rw [lookup_putF, if_neg ksne, lookup_putF, if_pos rfl]
theorem pflds_s (kl sl : Addr) : (pflds kl sl).lookup ("_streams" : Str) = some (.ref sl) := by
  unfold pflds
  rw [lookup_putF, if_pos rfl]
theorem pflds_no (kl sl : Addr) {m : Str} (h1 : ¬ m = "_streams") (h2 : ¬ m = "_knots") : (pflds kl sl).lookup m = none := by
  unfold pflds
  rw [lookup_putF, if_neg h1, lookup_putF, if_neg h2]
  all_goals rfl
/-- the rules of a plant -/
structure Wf (kn : List Str) (G : List (Sm Str)) : Prop where
  kne : kn ≠ []
  klen : kn.length ≤ 24
  knd : kn.Nodup
  kok : ∀ k ∈ kn, NameOk k
  glen : G.length ≤ 60
  gnd : (G.map (·.nm)).Nodup
  gok : ∀ e ∈ G, NameOk e.nm ∧ e.tl ∈ kn ∧ e.hd ∈ kn ∧ 0 ≤ e.lo ∧ e.lo ≤ e.hi ∧ e.hi ≤ 1000000
theorem Wf.uq {kn : List Str} {G : List (Sm Str)} (h : Wf kn G) : Uq G := by
  intro f hf g hg e
  obtain ⟨i, hi, rfl⟩ := List.mem_iff_getElem.mp hf
  obtain ⟨j, hj, rfl⟩ := List.mem_iff_getElem.mp hg
  have hi' : i < (G.map (·.nm)).length := by rw [List.length_map]; exact hi
  have hj' : j < (G.map (·.nm)).length := by rw [List.length_map]; exact hj
  have : (G.map (·.nm))[i] = (G.map (·.nm))[j] := by rw [List.getElem_map, List.getElem_map]; exact e
  have ij := (List.getElem_inj h.gnd).mp this
  subst ij
  rfl
/-- a plant stands at p -/
structure PlantAt (C : Addr) (H : Hp) (p : Addr) (kn : List Str) (G : List (Sm Str)) : Prop where
  wf : Wf kn G
  at_ : ∃ dx kl sl L, H p = some (.ins C dx (pflds kl sl)) ∧ H kl = some (.lst (kn.map V.str)) ∧ H sl = some (.lst (L.map fun q : Addr × Sm Str => V.ref q.1)) ∧ SmsAt H L ∧ L.map (·.2) = G
theorem smsAt_same {H H' : Hp} {L : List (Addr × Sm Str)} (h : SmsAt H L) (s : Same H H') : SmsAt H' L := fun q hq => s _ _ (h q hq)
theorem PlantAt.same {C : Addr} {H H' : Hp} {p : Addr} {kn : List Str} {G : List (Sm Str)} (h : PlantAt C H p kn G) (s : Same H H') : PlantAt C H' p kn G := by
  obtain ⟨wf, dx, kl, sl, L, h1, h2, h3, h4, h5⟩ := h
  exact ⟨wf, dx, kl, sl, L, s _ _ h1, s _ _ h2, s _ _ h3, smsAt_same h4 s, h5⟩
def nms (G : List (Sm Str)) : List Str := G.map (·.nm)
/-- a list of names of streams stands at l -/
structure NamesAt (K : PySem.W.Frag) (H : Hp) (l : Addr) (G : List (Sm Str)) (ns : List Str) : Prop where
  sq : SqL K H l (ns.map V.str)
  nd : ns.Nodup
  sub : ∀ n ∈ ns, n ∈ nms G
theorem NamesAt.same {K : PySem.W.Frag} {H H' : Hp} {l : Addr} {G : List (Sm Str)} {ns : List Str} (h : NamesAt K H l G ns) (s : Same H H') : NamesAt K H' l G ns := ⟨s.seq h.sq, h.nd, h.sub⟩
theorem NamesAt.len {K : PySem.W.Frag} {H : Hp} {l : Addr} {kn : List Str} {G : List (Sm Str)} {ns : List Str} (h : NamesAt K H l G ns) (wf : Wf kn G) : ns.length ≤ 60 := by
  have a := nodup_sub_len h.nd h.sub
  have b := wf.glen
  unfold nms at a
  rw [List.length_map] at a
  omega
/-! ### promises of the parts -/
def spIsName : Sp := fun vs H Q _ => ∃ x, vs = [.str x] ∧ NameOk x ∧ ∀ H', Same H H' → Q (.bl true) H'
def spAreNames (K : PySem.W.Frag) : Sp := fun vs H Q _ => ∃ (l : Addr) (xs : List Str), vs = [.ref l] ∧ SqL K H l (xs.map V.str) ∧ xs.Nodup ∧ (∀ x ∈ xs, NameOk x) ∧ xs.length < 64 ∧ ∀ H', Same H H' → Q (.bl true) H'
def spIsStream (K : PySem.W.Frag) : Sp := fun vs H Q _ => ∃ (t l : Addr) (e : Sm Str) (kn : List Str), vs = [.ref t, .ref l] ∧ H t = some (.tup (smV e)) ∧ SqL K H l (kn.map V.str) ∧ e.tl ∈ kn ∧ e.hd ∈ kn ∧ 0 ≤ e.lo ∧ e.lo ≤ e.hi ∧ e.hi ≤ 1000000 ∧
  ∀ H', Same H H' → Q (.bl true) H'
def spInit (K : PySem.W.Frag) (C : Addr) : Sp := fun vs H Q _ => ∃ (p dx k l : Addr) (kn : List Str) (L : List (Addr × Sm Str)), vs = [.ref p, .ref k, .ref l] ∧ H p = some (.ins C dx []) ∧ SqL K H k (kn.map V.str) ∧ SqL K H l (L.map fun q => V.ref q.1) ∧ SmsAt H L ∧ Wf kn (L.map (·.2)) ∧
  ∀ (H' : Hp) (kn' : List Str) (L' : List (Addr × Sm Str)), (∀ b o, H b = some o → b ≠ p → H' b = some o) → kn'.Perm kn → L'.Perm L → PlantAt C H' p kn' (L'.map (·.2)) → Q .non H'
def spKnots (C : Addr) : Sp := fun vs H Q _ => ∃ (p : Addr) (kn : List Str) (G : List (Sm Str)), vs = [.ref p] ∧ PlantAt C H p kn G ∧ ∀ l H', Same H H' → H' l = some (.lst (kn.map V.str)) → Q (.ref l) H'
def spStreams (C : Addr) : Sp := fun vs H Q _ => ∃ (p : Addr) (kn : List Str) (G : List (Sm Str)), vs = [.ref p] ∧ PlantAt C H p kn G ∧
  ∀ (l : Addr) (H' : Hp) (L : List (Addr × Sm Str)), H l = none → Same H H' → H' l = some (.lst (L.map fun q : Addr × Sm Str => V.ref q.1)) → SmsAt H' L → L.map (·.2) = G → Q (.ref l) H'
def spNames (C : Addr) : Sp := fun vs H Q _ => ∃ (p : Addr) (kn : List Str) (G : List (Sm Str)), vs = [.ref p] ∧ PlantAt C H p kn G ∧ ∀ l H', Same H H' → H' l = some (.lst ((nms G).map V.str)) → Q (.ref l) H'
def spNamed (C : Addr) : Sp := fun vs H Q _ => ∃ (p : Addr) (kn : List Str) (G : List (Sm Str)) (e : Sm Str), vs = [.ref p, .str e.nm] ∧ PlantAt C H p kn G ∧ e ∈ G ∧ ∀ t H', Same H H' → H' t = some (.tup (smV e)) → Q (.ref t) H'
def spCheck (K : PySem.W.Frag) (C : Addr) : Sp := fun vs H Q _ => ∃ (p l : Addr) (kn : List Str) (G : List (Sm Str)) (ns : List Str), vs = [.ref p, .ref l] ∧ PlantAt C H p kn G ∧ NamesAt K H l G ns ∧ ∀ H', Same H H' → Q .non H'
def spEnds (C : Addr) : Sp := fun vs H Q _ => ∃ (p : Addr) (kn : List Str) (G : List (Sm Str)) (e : Sm Str), vs = [.ref p, .str e.nm] ∧ PlantAt C H p kn G ∧ e ∈ G ∧ ∀ t H', Same H H' → H' t = some (.tup [.str e.tl, .str e.hd]) → Q (.ref t) H'
/-! ### lots -/
/-- a dict from the knots to what f tells -/
def lotsKV (kn : List Str) (f : Str → Str) : List (Key × V) := kn.map fun k => (Sum.inr k, V.str (f k))
def tieF (f : Str → Str) (a b : Str) : Str → Str := fun k => if f k = bigger (f a) (f b) then lesser (f a) (f b) else f k
def lotF (G : List (Sm Str)) (ns : List Str) : Str → Str := ns.foldl (fun f n => match G.find? (fun e => decide (e.nm = n)) with | some e => tieF f e.tl e.hd | none => f) id
def spTied : Sp := fun vs H Q _ => ∃ (d : Addr) (a b : Str) (kn : List Str) (f : Str → Str), vs = [.ref d, .str a, .str b] ∧ H d = some (.dK (lotsKV kn f)) ∧ kn.Nodup ∧ kn.length ≤ 24 ∧ a ∈ kn ∧ b ∈ kn ∧
  ∀ d' H', Same H H' → H' d' = some (.dK (lotsKV kn (tieF f a b))) → Q (.ref d') H'
def spLots (K : PySem.W.Frag) (C : Addr) : Sp := fun vs H Q _ => ∃ (p l : Addr) (kn : List Str) (G : List (Sm Str)) (ns : List Str), vs = [.ref p, .ref l] ∧ PlantAt C H p kn G ∧ NamesAt K H l G ns ∧
  ∀ d H', Same H H' → H' d = some (.dK (lotsKV kn (lotF G ns))) → Q (.ref d) H'
/-! ### steps, levels, rings -/
def stV (t : Str × Int × Str) : List V := [.str t.1, .int t.2.1, .str t.2.2]
def StepsAt (H : Hp) (L : List (Addr × Str × Int × Str)) : Prop := ∀ q ∈ L, H q.1 = some (.tup (stV q.2))
theorem StepsAt.same {H H' : Hp} {L : List (Addr × Str × Int × Str)} (h : StepsAt H L) (s : Same H H') : StepsAt H' L := fun q hq => s _ _ (h q hq)
/-- the steps from k along the streams ns -/
structure StepsOf (G : List (Sm Str)) (ns : List Str) (k : Str) (L : List (Addr × Str × Int × Str)) : Prop where
  is : ∀ q ∈ L, ∃ e ∈ G, e.nm = q.2.1 ∧ e.nm ∈ ns ∧ Jn e k q.2.2.2
  has : ∀ e ∈ G, e.nm ∈ ns → ∀ y, Jn e k y → ∃ q ∈ L, q.2.1 = e.nm ∧ q.2.2.2 = y
def spSteps (K : PySem.W.Frag) (C : Addr) : Sp := fun vs H Q _ => ∃ (p l : Addr) (k : Str) (kn : List Str) (G : List (Sm Str)) (ns : List Str), vs = [.ref p, .ref l, .str k] ∧ PlantAt C H p kn G ∧ NamesAt K H l G ns ∧
  ∀ (r : Addr) (H' : Hp) (L : List (Addr × Str × Int × Str)), H r = none → Same H H' → H' r = some (.lst (L.map fun q : Addr × Str × Int × Str => V.ref q.1)) → StepsAt H' L → StepsOf G ns k L → L.length ≤ 200 → Q (.ref r) H'
def lvKV (L : List (Str × Nat)) : List (Key × V) := L.map fun q => (Sum.inr q.1, V.int (q.2 : Int))
def look (L : List (Str × Nat)) (x : Str) : Option Nat := (L.find? fun q => decide (q.1 = x)).map (·.2)
def spLevels (K : PySem.W.Frag) (C : Addr) : Sp := fun vs H Q _ => ∃ (p l : Addr) (k : Str) (kn : List Str) (G : List (Sm Str)) (ns : List Str), vs = [.ref p, .ref l, .str k] ∧ PlantAt C H p kn G ∧ NamesAt K H l G ns ∧ k ∈ kn ∧
  ∀ (d : Addr) (H' : Hp) (L : List (Str × Nat)), Same H H' → H' d = some (.dK (lvKV L)) → Lv G (· ∈ ns) k (look L) → Q (.ref d) H'
/-- a ring: names and ways -/
def rgV (t : Str × Int) : List V := [.str t.1, .int t.2]
def RingAt (H : Hp) (R : List (Addr × Str × Int)) : Prop := ∀ q ∈ R, H q.1 = some (.tup (rgV q.2))
theorem RingAt.same {H H' : Hp} {R : List (Addr × Str × Int)} (h : RingAt H R) (s : Same H H') : RingAt H' R := fun q hq => s _ _ (h q hq)
def rnm (R : List (Addr × Str × Int)) : List Str := R.map (·.2.1)
def spRing (K : PySem.W.Frag) (C : Addr) : Sp := fun vs H Q _ => ∃ (p l : Addr) (e : Sm Str) (kn : List Str) (G : List (Sm Str)) (ns : List Str), vs = [.ref p, .ref l, .str e.nm] ∧ PlantAt C H p kn G ∧ NamesAt K H l G ns ∧ e ∈ G ∧
  (∀ H', Same H H' → ¬ Rch G (fun n => n ∈ ns ∧ n ≠ e.nm) e.hd e.tl → Q .non H') ∧
  ∀ (r : Addr) (H' : Hp) (R : List (Addr × Str × Int)) (rest : List Str), Same H H' → H' r = some (.lst (R.map fun q : Addr × Str × Int => V.ref q.1)) → RingAt H' R → rnm R = e.nm :: rest → rest.length ≤ 60 → RingOf G (· ∈ ns) e rest → Q (.ref r) H'
/-- the bridges of some streams -/
def IsBridge (G : List (Sm Str)) (ns : List Str) (n : Str) : Prop := ¬ ∃ e ∈ G, e.nm = n ∧ Rch G (fun k => k ∈ ns ∧ k ≠ n) e.hd e.tl
def spBridges (K : PySem.W.Frag) (C : Addr) : Sp := fun vs H Q _ => ∃ (p l : Addr) (kn : List Str) (G : List (Sm Str)) (ns : List Str), vs = [.ref p, .ref l] ∧ PlantAt C H p kn G ∧ NamesAt K H l G ns ∧
  ∀ (r : Addr) (H' : Hp) (bs : List Str), Same H H' → H' r = some (.lst (bs.map V.str)) → bs.Nodup → (∀ n, n ∈ bs ↔ n ∈ ns ∧ IsBridge G ns n) → Q (.ref r) H'
/-! ### the merged plant -/
def unms (G : List (Sm Str)) (M : List Str) : List Str := (nms G).filter fun n => !decide (n ∈ M)
def mrgE (f : Str → Str) (e : Sm Str) : Sm Str := ⟨e.nm, f e.tl, f e.hd, e.lo, e.hi⟩
def theW (G : List (Sm Str)) (M : List Str) : List (Sm Str) := (G.filter fun e => decide (e.nm ∈ M)).map (mrgE (lotF G (unms G M)))
def spMerged (K : PySem.W.Frag) (C : Addr) : Sp := fun vs H Q _ => ∃ (p l : Addr) (kn : List Str) (G : List (Sm Str)) (M : List Str), vs = [.ref p, .ref l] ∧ PlantAt C H p kn G ∧ NamesAt K H l G M ∧
  ∀ (q : Addr) (H' : Hp) (kn' : List Str) (W : List (Sm Str)), Same H H' → PlantAt C H' q kn' W → (∀ f, f ∈ W ↔ f ∈ theW G M) → Q (.ref q) H'
/-! ### told -/
def spUnm (K : PySem.W.Frag) (C : Addr) : Sp := fun vs H Q _ => ∃ (p l : Addr) (kn : List Str) (G : List (Sm Str)) (M : List Str), vs = [.ref p, .ref l] ∧ PlantAt C H p kn G ∧ NamesAt K H l G M ∧
  ∀ r H', Same H H' → H' r = some (.lst ((unms G M).map V.str)) → Q (.ref r) H'
def spUntold (K : PySem.W.Frag) (C : Addr) : Sp := fun vs H Q _ => ∃ (p l : Addr) (n : Str) (kn : List Str) (G : List (Sm Str)) (M : List Str), vs = [.ref p, .ref l, .str n] ∧ PlantAt C H p kn G ∧ NamesAt K H l G M ∧ n ∈ nms G ∧
  ∀ v H', Same H H' → (v = V.non ↔ Told G (· ∈ M) n) → Q v H'
def spIsTold (K : PySem.W.Frag) (C : Addr) : Sp := fun vs H Q _ => ∃ (p l : Addr) (n : Str) (kn : List Str) (G : List (Sm Str)) (M : List Str), vs = [.ref p, .ref l, .str n] ∧ PlantAt C H p kn G ∧ NamesAt K H l G M ∧ n ∈ nms G ∧
  ∀ b H', Same H H' → (b = true ↔ Told G (· ∈ M) n) → Q (.bl b) H'
def spToldS (K : PySem.W.Frag) (C : Addr) : Sp := fun vs H Q _ => ∃ (p l : Addr) (kn : List Str) (G : List (Sm Str)) (M : List Str), vs = [.ref p, .ref l] ∧ PlantAt C H p kn G ∧ NamesAt K H l G M ∧ H l = some (.lst (M.map V.str)) ∧
  ∀ (r : Addr) (H' : Hp) (ys : List Str), Same H H' → H' r = some (.lst (ys.map V.str)) → sortedS ys = true → ys.Nodup → (∀ n, n ∈ ys ↔ n ∈ nms G ∧ Told G (· ∈ M) n) → Q (.ref r) H'
/-! ### the least ring -/
def spLeast (K : PySem.W.Frag) (C : Addr) : Sp := fun vs H Q _ => ∃ (p l : Addr) (kn : List Str) (G : List (Sm Str)) (M : List Str), vs = [.ref p, .ref l] ∧ PlantAt C H p kn G ∧ NamesAt K H l G M ∧
  (∀ H', Same H H' → LeastOf (theW G M) none → Q .non H') ∧
  ∀ (r : Addr) (H' : Hp) (R : List (Addr × Str × Int)), Same H H' → H' r = some (.lst (R.map fun q : Addr × Str × Int => V.ref q.1)) → RingAt H' R → LeastOf (theW G M) (some (rnm R)) → R.length ≤ 61 → Q (.ref r) H'
def lenV (g : Nat → Int) : Option (List Str) → V
  | none => .non
  | some r => .int (g r.length)
def spLen (K : PySem.W.Frag) (C : Addr) (g : Nat → Int) : Sp := fun vs H Q _ => ∃ (p l : Addr) (kn : List Str) (G : List (Sm Str)) (M : List Str), vs = [.ref p, .ref l] ∧ PlantAt C H p kn G ∧ NamesAt K H l G M ∧
  ∀ H' res, Same H H' → LeastOf (theW G M) res → Q (lenV g res) H'
/-! ### the law's own -/
def spRow : Sp := fun vs H Q _ => ∃ (c m : Int), vs = [.int c, .int m] ∧ 0 ≤ m ∧ m ≤ 100 ∧ ∀ (l : Addr) (H' : Hp) (xs : List Int), H l = none → Same H H' → H' l = some (.lst (xs.map V.int)) → (xs.length : Int) = m → (∀ x ∈ xs, 0 ≤ x ∧ x < 1009) → Q (.ref l) H'
def spNumbers (K : PySem.W.Frag) : Sp := fun vs H Q _ => ∃ (a : Addr) (ns : List Int), vs = [.ref a, .int 50] ∧ SqL K H a (ns.map V.int) ∧ ns.length ≤ 63 ∧ ∀ (l : Addr) (H' : Hp) (xs : List Int), Same H H' → H' l = some (.lst (xs.map V.int)) → xs.length = 50 → (∀ x ∈ xs, 0 ≤ x ∧ x < 1009) → Q (.ref l) H'
/-- the dict of drawn streams -/
def drV (e : Sm Str) : List V := [.str e.tl, .str e.hd, .int e.lo, .int e.hi]
def DrAt (H : Hp) (L : List (Addr × Sm Str)) : Prop := ∀ q ∈ L, H q.1 = some (.tup (drV q.2))
theorem DrAt.same {H H' : Hp} {L : List (Addr × Sm Str)} (h : DrAt H L) (s : Same H H') : DrAt H' L := fun q hq => s _ _ (h q hq)
def drKV (L : List (Addr × Sm Str)) : List (Key × V) := L.map fun q => (Sum.inr q.2.nm, V.ref q.1)
/-- what _law_plant hands back stands at t -/
def DrawnAt (H : Hp) (t : Addr) (kn : List Str) (L : List (Addr × Sm Str)) : Prop := ∃ k d, H t = some (.tup [.ref k, .ref d]) ∧ H k = some (.lst (kn.map V.str)) ∧ H d = some (.dK (drKV L)) ∧ DrAt H L ∧ Wf kn (L.map (·.2)) ∧ L.length ≤ 9
theorem DrawnAt.same {H H' : Hp} {t : Addr} {kn : List Str} {L : List (Addr × Sm Str)} (h : DrawnAt H t kn L) (s : Same H H') : DrawnAt H' t kn L := by
  obtain ⟨k, d, h1, h2, h3, h4, h5⟩ := h
  exact ⟨k, d, s _ _ h1, s _ _ h2, s _ _ h3, h4.same s, h5⟩
def spPlant (K : PySem.W.Frag) : Sp := fun vs H Q _ => ∃ (l : Addr) (xs : List Int), vs = [.ref l, .int 0, .int 6, .int 9] ∧ SqL K H l (xs.map V.int) ∧ xs.length = 50 ∧ (∀ x ∈ xs, 0 ≤ x ∧ x < 1009) ∧ ∀ (t : Addr) (H' : Hp) (kn : List Str) (L : List (Addr × Sm Str)), Same H H' → DrawnAt H' t kn L → Q (.ref t) H'
def spMade (C : Addr) : Sp := fun vs H Q _ => ∃ (t : Addr) (kn : List Str) (L : List (Addr × Sm Str)), vs = [.ref t] ∧ DrawnAt H t kn L ∧ ∀ (p : Addr) (H' : Hp) (kn' : List Str) (G : List (Sm Str)), Same H H' → PlantAt C H' p kn' G → (∀ n, n ∈ nms G ↔ n ∈ L.map (·.2.nm)) → Q (.ref p) H'
def spMost (K : PySem.W.Frag) : Sp := fun vs H Q _ => ∃ (t l : Addr) (kn : List Str) (L : List (Addr × Sm Str)) (xs : List Int), vs = [.ref t, .ref l, .int 25] ∧ DrawnAt H t kn L ∧ SqL K H l (xs.map V.int) ∧ xs.length = 50 ∧ (∀ x ∈ xs, 0 ≤ x ∧ x < 1009) ∧
  ∀ (r : Addr) (H' : Hp) (M : List Str), Same H H' → H' r = some (.lst (M.map V.str)) → M.Nodup → (∀ n ∈ M, n ∈ L.map (·.2.nm)) → Q (.ref r) H'
def LotsAt (H : Hp) (Ss : List (Addr × List Str)) : Prop := ∀ q ∈ Ss, H q.1 = some (.lst (q.2.map V.str))
theorem LotsAt.same {H H' : Hp} {Ss : List (Addr × List Str)} (h : LotsAt H Ss) (s : Same H H') : LotsAt H' Ss := fun q hq => s _ _ (h q hq)
def spLotsOf (K : PySem.W.Frag) : Sp := fun vs H Q _ => ∃ (l : Addr) (M : List Str) (k : Nat), vs = [.ref l, .int (k : Int)] ∧ SqL K H l (M.map V.str) ∧ M.length ≤ 9 ∧
  ∀ (r : Addr) (H' : Hp) (Ss : List (Addr × List Str)), Same H H' → H' r = some (.lst (Ss.map fun q : Addr × List Str => V.ref q.1)) → LotsAt H' Ss → (∀ S, S ∈ Ss.map (·.2) ↔ S.Sublist M ∧ S.length = k) → Ss.length ≤ 1000 → Q (.ref r) H'
def spAtLeast : Sp := fun vs H Q _ => ∃ (v : V) (k : Int), vs = [v, .int k] ∧ ((v = .non ∧ Q (.bl true) H) ∨ ∃ n, v = .int n ∧ Q (.bl (decide (k ≤ n))) H)
def spLaw (K : PySem.W.Frag) : Sp := fun vs H Q _ => ∃ (a : Addr) (ns : List Int), vs = [.ref a] ∧ SqL K H a (ns.map V.int) ∧ ns.length ≤ 63 ∧ ∀ H', Q (.bl true) H'
end Msr
end
section
namespace Msr
open PySem PySem.Spec PyProof.Rows L2 Ms MsLow
section
variable {P : Program} {w : World} {K : PySem.W.Frag} {mg : Str → Option Value} {base : Heap} {C : Addr}
/-! ### is_name -/
theorem sc_is_name : FnScope ["text", "sign"] ["text"] (defScope sIsName) := ⟨rfl, rfl, rfl, by decide +kernel, rfl, by decide +kernel, by decide +kernel⟩
theorem ok_is_name {f : Addr} {fd : FuncData} (F : Fun K "is_name" "is_name" sIsName f fd) (T : Txt K mg C) : FnOk P w K mg base CX0 1 f fd ["text"] spIsName := by
  refine F.ok sc_is_name (fun vs H Q E h => ?_) (fun cdv A outer s H vs Q E hr h => ?_)
  · obtain ⟨x, rfl, _⟩ := h
    rfl
  · obtain ⟨x, rfl, ⟨h1, h2, h3⟩, q⟩ := h
    obtain ⟨tl, mgl⟩ := T.lts
    refine ⟨_, pss_one (ps_ret (pe_and (pe_chain op_le op_le pe_int (pe_callB call_len_str (by rfl) T.len PySem.boot_len (pa_cons (pv 0) pa_nil)) pe_int)
      (pe_one (pe_callB (cr_all rfl) (by rfl) T.all (by decide +kernel) (pa_cons
        (pe_lc (own := [("sign", 1)]) (g := gName 1) (by rfl) sc_is_name.nd (pi_str (pv 0)) (blkOk_by (own := [("sign", 1)]) (N := ["text", "sign"]) (sc := defScope sIsName) (by decide +kernel))
          (fun _ _ _ _ _ => pg_name (i := 1) sc_is_name.nd rfl (Or.inl rfl)) (fun _ _ _ _ _ => pts_nil) (fun _ _ _ _ _ => pe_cmpR op_in_sign (pv 1) (pe_glob (v := .str letters) rfl mgl ⟨_, rfl⟩) (by rfl))) pa_nil))))), ?_⟩
    refine ⟨_, rfl, x, rfl, Nat.le_of_lt (small1000 (by omega)), _, _, rfl, rfl, _, rfl, itD (by omega) ⟨_, _, rfl, rfl, _, rfl, itD (by omega) ?_⟩⟩
    refine ⟨_, rfl, x, rfl, fun D hD => ?_⟩
    refine lc_all walk_str hD (by show x.length ≤ 1000; omega) (fun _ _ => trivial) (fun i acc _ => acc = List.replicate i (V.bl true)) rfl (fun _ _ _ _ _ h => h) (fun i acc _ h => by rw [h, List.length_replicate]; exact Nat.le_refl _) ?_ ?_
    · rintro i v H' H'' acc hi s1 ha rfl ⟨rfl, c, hc, rfl⟩ N kT
      refine ⟨rfl, _, rfl, c, letters, rfl, rfl, kT _ _ (Same.refl _) ?_⟩
      rw [decide_eq_true (h3 c (Array.mem_toList_iff.mpr (Array.mem_of_getElem? hc))), List.replicate_succ']
    · rintro H' acc s1 ha rfl
      refine ⟨D, List.replicate x.cps.size true, rfl, sq (by rw [ha, List.map_replicate]), ?_⟩
      rw [show (List.replicate x.cps.size true).all id = true by simp]
      exact q H' s1
/-! ### are_names -/
theorem sc_are_names : FnScope ["texts", "text"] ["texts"] (defScope sAreNames) := ⟨rfl, rfl, rfl, by decide +kernel, rfl, by decide +kernel, by decide +kernel⟩
theorem ok_are_names {f f1 : Addr} {fd fd1 : FuncData} (F : Fun K "are_names" "are_names" sAreNames f fd) (T : Txt K mg C) (C1 : Cal P w K mg base 1 "is_name" ["text"] spIsName f1 fd1) :
    FnOk P w K mg base CX0 2 f fd ["texts"] (spAreNames K) := by
  refine F.ok sc_are_names (fun vs H Q E h => ?_) (fun cdv A outer s H vs Q E hr h => ?_)
  · obtain ⟨l, xs, rfl, _⟩ := h
    rfl
  · obtain ⟨l, xs, rfl, hl, nd, hok, hlen, q⟩ := h
    refine ⟨_, pss_one (ps_ret (pe_and (pe_callB (cr_all rfl) (by rfl) T.all (by decide +kernel) (pa_cons
        (pe_lc (own := [("text", 1)]) (g := gName 1) (by rfl) sc_are_names.nd (pi_list (pv 0)) (blkOk_by (own := [("text", 1)]) (N := ["texts", "text"]) (sc := defScope sAreNames) (by decide +kernel))
          (fun _ _ _ _ _ => pg_name (i := 1) sc_are_names.nd rfl (Or.inl rfl)) (fun _ _ _ _ _ => pts_nil) (fun _ _ _ _ _ => pe_call C1.ok hr rfl C1.mg_ C1.kp C1.bd .nil pass0 (pa_cons (pv 1) pa_nil))) pa_nil))
      (pe_one (pe_cmpR op_eq (pe_callB cr_lenT (by rfl) T.len PySem.boot_len (pa_cons (pe_callTy (cr_setT rfl) (by rfl) T.set (by decide +kernel) (pa_cons (pv 0) pa_nil)) pa_nil))
        (pe_callB call_len_seq (by rfl) T.len PySem.boot_len (pa_cons (pv 0) pa_nil)) (nomark _))))), ?_⟩
    refine ⟨_, rfl, l, rfl, ⟨_, hl⟩, fun D hD => ?_⟩
    refine lc_all (walk_list (xs := xs.map V.str)) hD (by rw [List.length_map]; omega) (fun H' s' => s'.seq hl) (fun i acc _ => acc = List.replicate i (V.bl true)) rfl (fun _ _ _ _ _ h => h) (fun i acc _ h => by rw [h, List.length_replicate]; exact Nat.le_refl _) ?_ ?_
    · rintro i v H' H'' acc hi s1 ha rfl ⟨rfl, hv⟩ N kT
      rw [List.getElem?_map] at hv
      obtain ⟨x, hx, rfl⟩ := Option.map_eq_some_iff.mp hv
      refine ⟨rfl, _, rfl, x, rfl, hok x (List.mem_of_getElem? hx), fun H4 s4 => kT _ _ s4 ?_⟩
      rw [List.replicate_succ']
    · rintro H' acc s1 ha rfl
      refine ⟨D, List.replicate (xs.map V.str).length true, rfl, sq (by rw [ha, List.map_replicate]), ?_⟩
      rw [show (List.replicate (xs.map V.str).length true).all id = true by simp]
      refine ⟨true, rfl, iteT ?_⟩
      refine ⟨_, rfl, l, xs, rfl, s1.seq hl, hlen, fun p n np _ => ?_⟩
      have s2 := s1.trans (same_upd (o := SetTO w p (fun j => decide (j ∈ xs)) n) np)
      refine ⟨p, xs, n, rfl, upd_same, nd, _, rfl, l, _, rfl, .inl (s2.seq hl), rfl, ?_⟩
      rw [List.length_map]
      have e : decide (V.int (xs.length : Int) = V.int (xs.length : Int)) = true := decide_eq_true rfl
      rw [e]
      exact q _ s2
/-! ### is_stream -/
/-- a op b op' c op'' d -/
def tChain3 (r r' r'' : R2) (ta tb tc td : TE) : TE := fun σ H Q => ta σ H fun x H1 => tb σ H1 fun y H2 => r x y H2 fun z H3 => ∃ k, z = .bl k ∧
  (if k = true then tc σ H3 fun z' H4 => r' y z' H4 fun v H5 => ∃ k', v = .bl k' ∧ (if k' = true then td σ H5 fun w' H6 => r'' z' w' H6 Q else Q (.bl false) H5) else Q (.bl false) H3)
theorem pe_chain3 {X : Cx} {a b c d : Expr} {pos : Pos} {ta tb tc td : TE} {op op' op'' : CmpOp} {r r' r'' : R2} (ho : OpR X (compareOp op) r) (ho' : OpR X (compareOp op') r') (ho'' : OpR X (compareOp op'') r'') (ha : PE X a ta) (hb : PE X b tb) (hc : PE X c tc) (hd : PE X d td)
    (hm : lastMarks [op, op', op''] [b, c, d] = false := by with_unfolding_all rfl) : PE X (.Compare a [op, op', op''] [b, c, d] pos) (tChain3 r r' r'' ta tb tc td) := by
  refine ⟨fun pins s σ H Q I h => ?_⟩
  refine Compare_chain (thn (ha.run pins s σ H _ I h) fun v s1 ⟨x, H1, I1, r1, q1⟩ => chain_link (thn (hb.run pins s1 σ H1 _ I1 q1) fun u s2 ⟨y, H2, I2, r2, q2⟩ =>
    thn (ho pins s2 σ H2 x y v u _ I2 r1 r2 q2) fun d s3 ⟨z, H3, I3, r3, k, e, q3⟩ => ?_)) hm
  subst e
  cases r3
  refine wpAny_truthy_bool ?_
  cases k with
  | false => exact ite_ff ⟨.bl false, H3, I3, rfl, q3⟩
  | true =>
    refine ite_tt (chain_link (thn (hc.run pins s3 σ H3 _ I3 q3) fun w' s4 ⟨z', H4, I4, r4, q4⟩ => thn (ho' pins s4 σ H4 y z' u w' _ I4 r2 r4 q4) fun d' s5 ⟨z2, H5, I5, r5, k', e', q5⟩ => ?_))
    subst e'
    cases r5
    refine wpAny_truthy_bool ?_
    cases k' with
    | false => exact ite_ff ⟨.bl false, H5, I5, rfl, q5⟩
    | true => exact ite_tt (chain_last (thn (hd.run pins s5 σ H5 _ I5 q5) fun w2 s6 ⟨z3, H6, I6, r6, q6⟩ => ho'' pins s6 σ H6 z' z3 w' w2 Q I6 r4 r6 q6))
theorem flat_strs : ∀ (xs : List Str), (xs.map V.str).all flatV = true
  | [] => rfl
  | x :: xs => by rw [List.map_cons, List.all_cons, flat_strs xs] <;> rfl
theorem inV_str (x : Str) : ∀ (xs : List Str), inV (.str x) (xs.map V.str) = decide (x ∈ xs)
  | [] => by simp [inV]
  | y :: xs => by
    have ih := inV_str x xs
    unfold inV at ih ⊢
    rw [List.map_cons, List.any_cons, ih]
    have e : eqV (.str y) (.str x) = decide (y = x) := by
      show (y == x) = _
      by_cases h : y = x
      · subst h
        simp
      · simp [h]
    rw [e]
    by_cases h : y = x
    · subst h
      simp
    · have h' : ¬ x = y := fun q => h q.symm
      simp [h, h']
theorem sc_is_stream : FnScope ["stream", "knots", "_", "tail", "head", "low", "high"] ["stream", "knots"] (defScope sIsStream) := ⟨rfl, rfl, rfl, by decide +kernel, rfl, by decide +kernel, by decide +kernel⟩
theorem ok_is_stream {f : Addr} {fd : FuncData} (F : Fun K "is_stream" "is_stream" sIsStream f fd) (T : Txt K mg C) : FnOk P w K mg base CX0 1 f fd ["stream", "knots"] (spIsStream K) := by
  refine F.ok sc_is_stream (fun vs H Q E h => ?_) (fun cdv A outer s H vs Q E hr h => ?_)
  · obtain ⟨t, l, e, kn, rfl, _⟩ := h
    rfl
  · obtain ⟨t, l, e, kn, rfl, ht, hl, h1, h2, h3, h4, h5, q⟩ := h
    obtain ⟨tm, mgm⟩ := T.mf
    refine ⟨_, pss_cons (ps_if (pt_cmpR op_ne (pe_callB call_len_seq (by rfl) T.len PySem.boot_len (pa_cons (pv 0) pa_nil)) pe_int (nomark _)) (pss_one (ps_ret pe_bl)) pss_nil)
      (pss_cons (ps_asg (pv 0) (pg_tup (by rfl) (pgs_cons (pg_name (i := 2) sc_is_stream.nd rfl (.inl rfl)) (pgs_cons (pg_name (i := 3) sc_is_stream.nd rfl (.inl rfl)) (pgs_cons (pg_name (i := 4) sc_is_stream.nd rfl (.inl rfl))
        (pgs_cons (pg_name (i := 5) sc_is_stream.nd rfl (.inl rfl)) (pgs_cons (pg_name (i := 6) sc_is_stream.nd rfl (.inl rfl)) pgs_nil)))))))
      (pss_one (ps_ret (pe_and (pe_cmpR op_in_seq (pv 3) (pv 1) (by rfl)) (pe_and (pe_cmpR op_in_seq (pv 4) (pv 1) (by rfl)) (pe_one (pe_chain3 op_le op_le op_le pe_int (pv 5) (pv 6) (pe_glob (v := .int 1000000) rfl mgm ⟨_, rfl⟩)))))))), ?_⟩
    refine ⟨_, rfl, t, _, rfl, .inr (st ht), rfl, _, rfl, itD' rfl ?_⟩
    refine ⟨_, rfl, t, _, rfl, st ht, rfl, _, _, rfl, _, _, rfl, _, _, rfl, _, _, rfl, _, _, rfl, rfl, ?_⟩
    refine ⟨_, rfl, _, rfl, l, _, rfl, .inl hl, rfl, flat_strs kn, true, ?_, iteT ?_⟩
    · show V.bl (inV (.str e.tl) (kn.map V.str)) = V.bl true
      rw [inV_str, decide_eq_true h1]
    refine ⟨_, rfl, _, rfl, l, _, rfl, .inl hl, rfl, flat_strs kn, true, ?_, iteT ?_⟩
    · show V.bl (inV (.str e.hd) (kn.map V.str)) = V.bl true
      rw [inV_str, decide_eq_true h2]
    refine ⟨_, rfl, _, _, rfl, rfl, _, rfl, itD h3 ⟨_, rfl, _, _, rfl, rfl, _, rfl, itD h4 ⟨_, _, rfl, rfl, ?_⟩⟩⟩
    show Q (V.bl (decide (e.hi ≤ 1000000))) H
    rw [decide_eq_true h5]
    exact q H (Same.refl H)
end
end Msr
end
section
/-! The class Plant. -/
namespace Msr
open PySem PySem.Spec PyProof.Rows L2 Ms MsLow
section
variable {P : Program} {w : World} {K : PySem.W.Frag} {mg : Str → Option Value} {base : Heap} {C : Addr}
theorem refs_getElem {L : List (Addr × Sm Str)} {i : Nat} {v : V} (h : (L.map fun q : Addr × Sm Str => V.ref q.1)[i]? = some v) : ∃ q, L[i]? = some q ∧ v = .ref q.1 := by
  rw [List.getElem?_map] at h
  obtain ⟨q, hq, rfl⟩ := Option.map_eq_some_iff.mp h
  exact ⟨q, hq, rfl⟩
/-! ### __init__ -/
theorem sc_init : FnScope ["self", "knots", "streams", "stream"] ["self", "knots", "streams"] (defScope sInit) := ⟨rfl, rfl, rfl, by decide +kernel, rfl, by decide +kernel, by decide +kernel⟩
theorem ok_init {f f1 f2 : Addr} {fd fd1 fd2 : FuncData} (F : Fun K "__init__" "Plant.__init__" sInit f fd) (T : Txt K mg C) (C1 : Cal P w K mg base 2 "are_names" ["texts"] (spAreNames K) f1 fd1) (C2 : Cal P w K mg base 1 "is_stream" ["stream", "knots"] (spIsStream K) f2 fd2) :
    FnOk P w K mg base CX0 3 f fd ["self", "knots", "streams"] (spInit K C) := by
  refine F.ok sc_init (fun vs H Q E h => ?_) (fun cdv A outer s H vs Q E hr h => ?_)
  · obtain ⟨p, dx, k, l, kn, L, rfl, _⟩ := h
    rfl
  · obtain ⟨p, dx, k, l, kn, L, rfl, hp, hk, hl, hL, wf, q⟩ := h
    obtain ⟨tk, mgk⟩ := T.mkn
    obtain ⟨ts, mgs⟩ := T.ms
    have hr1 : Room 1 _ := hr.mono (by decide)
    refine ⟨_, pss_cons (ps_if (PW.pt (pw_or (pt_not (pt_chain op_le op_le pe_int (pe_callB call_len_seq (by rfl) T.len PySem.boot_len (pa_cons (pv 1) pa_nil)) (pe_glob (v := .int 24) rfl mgk ⟨_, rfl⟩)))
        (pw_or1 (pt_not (pt_val (pe_call C1.ok hr rfl C1.mg_ C1.kp C1.bd .nil pass0 (pa_cons (pv 1) pa_nil))))))) (pss_one ps_never) pss_nil)
      (pss_cons (ps_if (PW.pt (pw_or (pt_cmpR op_gt (pe_callB call_len_seq (by rfl) T.len PySem.boot_len (pa_cons (pv 2) pa_nil)) (pe_glob (v := .int 60) rfl mgs ⟨_, rfl⟩) (nomark _))
        (pw_or1 (pt_not (pt_val (pe_callB (cr_all rfl) (by rfl) T.all (by decide +kernel) (pa_cons
          (pe_lc (own := [("stream", 3)]) (g := gName 3) (by rfl) sc_init.nd (pi_list (pv 2)) (blkOk_by (own := [("stream", 3)]) (N := ["self", "knots", "streams", "stream"]) (sc := defScope sInit) (by decide +kernel))
            (fun _ _ _ _ _ => pg_name (i := 3) sc_init.nd rfl (Or.inl rfl)) (fun _ _ _ _ _ => pts_nil) (fun _ _ _ _ _ => pe_call C2.ok hr1 rfl C2.mg_ C2.kp C2.bd .nil pass0 (pa_cons (pv 3) (pa_cons (pv 1) pa_nil)))) pa_nil))))))) (pss_one ps_never) pss_nil)
      (pss_cons (ps_if (pt_not (pt_val (pe_call C1.ok hr rfl C1.mg_ C1.kp C1.bd .nil pass0 (pa_cons
          (pe_lc (own := [("stream", 3)]) (g := gName 3) (by rfl) sc_init.nd (pi_list (pv 2)) (blkOk_by (own := [("stream", 3)]) (N := ["self", "knots", "streams", "stream"]) (sc := defScope sInit) (by decide +kernel))
            (fun _ _ _ _ _ => pg_name (i := 3) sc_init.nd rfl (Or.inl rfl)) (fun _ _ _ _ _ => pts_nil) (fun _ _ _ _ _ => pe_ix (r := rIxT K) ix_tup (pv 3) pe_int (fun _ _ => rfl))) pa_nil)))) (pss_one ps_never) pss_nil)
      (pss_cons (ps_fld (pv 0) (pe_callB cr_sortedS (by rfl) T.sorted (by decide +kernel) (pa_cons (pv 1) pa_nil)) rfl)
      (pss_one (ps_fld (pv 0) (pe_callB (cr_sortSm hr.units) (by rfl) T.sorted (by decide +kernel) (pa_cons (pv 2) pa_nil)) rfl))))), ?_⟩
    -- the knots
    have l1 : 1 ≤ kn.length := by
      cases h : kn with
      | nil => exact absurd h wf.kne
      | cons _ _ => simp
    have hk2 := wf.klen
    refine ⟨_, rfl, k, _, rfl, .inl hk, _, _, rfl, rfl, _, rfl, itD (by rw [List.length_map]; omega) ⟨_, _, rfl, rfl, _, rfl, itD' (by rw [List.length_map]; omega) ?_⟩⟩
    refine ⟨_, rfl, k, kn, rfl, hk, wf.knd, wf.kok, by omega, fun H1 s1 => ⟨true, rfl, iteF ?_⟩⟩
    -- the streams
    have hg := wf.glen
    rw [List.length_map] at hg
    refine ⟨_, rfl, l, _, rfl, .inl (s1.seq hl), _, _, rfl, rfl, _, rfl, itN (by rw [List.length_map]; omega) ?_⟩
    refine ⟨_, rfl, l, rfl, ⟨_, s1.seq hl⟩, fun D hD => ?_⟩
    refine lc_all (walk_list (xs := L.map fun q : Addr × Sm Str => V.ref q.1)) hD (by rw [List.length_map]; omega) (fun H' s' => s'.seq (s1.seq hl)) (fun i acc _ => acc = List.replicate i (V.bl true)) rfl (fun _ _ _ _ _ h => h) (fun i acc _ h => by rw [h, List.length_replicate]; exact Nat.le_refl _) ?_ ?_
    · rintro i v H2 H3 acc hi s2 ha rfl ⟨rfl, hv⟩ N kT
      obtain ⟨e, he, rfl⟩ := refs_getElem hv
      have hm := List.mem_of_getElem? he
      obtain ⟨_, g1, g2, g3, g4, g5⟩ := wf.gok e.2 (List.mem_map.mpr ⟨e, hm, rfl⟩)
      refine ⟨rfl, _, rfl, _, rfl, e.1, k, e.2, kn, rfl, s2 _ _ (s1 _ _ (hL e hm)), s2.seq (s1.seq hk), g1, g2, g3, g4, g5, fun H4 s4 => kT _ _ s4 ?_⟩
      rw [List.replicate_succ']
    rintro H2 acc s2 ha rfl
    refine ⟨D, List.replicate (L.map fun q : Addr × Sm Str => V.ref q.1).length true, rfl, sq (by rw [ha, List.map_replicate]), ?_⟩
    rw [show (List.replicate (L.map fun q : Addr × Sm Str => V.ref q.1).length true).all id = true by simp]
    refine ⟨true, rfl, iteF ?_⟩
    -- the names
    have s12 := s1.trans s2
    refine ⟨_, rfl, l, rfl, ⟨_, s12.seq hl⟩, fun D2 hD2 => ?_⟩
    refine lc_all (walk_list (xs := L.map fun q : Addr × Sm Str => V.ref q.1)) hD2 (by rw [List.length_map]; omega) (fun H' s' => s'.seq (s12.seq hl)) (fun i acc _ => acc = (L.take i).map fun q => V.str q.2.nm) rfl (fun _ _ _ _ _ h => h) (fun i acc _ h => by rw [h, List.length_map, List.length_take]; omega) ?_ ?_
    · rintro i v H3 H4 acc hi s3 ha3 rfl ⟨rfl, hv⟩ N kT
      obtain ⟨e, he, rfl⟩ := refs_getElem hv
      have hm := List.mem_of_getElem? he
      refine ⟨rfl, _, rfl, e.1, _, 0, V.str e.2.nm, rfl, rfl, st (s3 _ _ (s12 _ _ (hL e hm))), rfl, kT _ _ (Same.refl _) ?_⟩
      rw [List.take_add_one, he, List.map_append]
      rfl
    rintro H3 acc s3 ha3 rfl
    have s13 := s12.trans s3
    refine ⟨D2, L.map (·.2.nm), rfl, sq (by rw [ha3, List.length_map, List.take_length, List.map_map]; rfl), ?_, ?_, by rw [List.length_map]; omega, fun H4 s4 => ⟨true, rfl, iteF ?_⟩⟩
    · have := wf.gnd
      rw [List.map_map] at this
      exact this
    · intro x hx
      obtain ⟨e, he, rfl⟩ := List.mem_map.mp hx
      exact (wf.gok e.2 (List.mem_map.mpr ⟨e, he, rfl⟩)).1
    -- self._knots = sorted(knots)
    have s14 := s13.trans s4
    refine ⟨_, rfl, k, kn, rfl, s14.seq hk, by omega, fun kn' kl pk _ nk => ?_⟩
    have hp4 := s14 _ _ hp
    have npk : p ≠ kl := ne_of_none hp4 nk
    refine ⟨_, rfl, p, C, dx, [], rfl, (by rw [upd_ne npk]; exact hp4), T.cl, T.nK, (by show 0 < 1000; decide), ?_⟩
    -- self._streams = sorted(streams)
    have sl0 : Same H4 (upd H4 kl (.lst (kn'.map V.str))) := same_upd nk
    generalize hH5 : upd H4 kl (.lst (kn'.map V.str)) = H5 at sl0
    have hk5 : H5 kl = some (.lst (kn'.map V.str)) := by rw [← hH5, upd_same]
    have s15 := s14.trans sl0
    have hp5 := s15 _ _ hp
    have keep : ∀ b o, H b = some o → b ≠ p → (upd H5 p (.ins C dx (putF "_knots" (.ref kl) []))) b = some o := fun b o e hb => by
      rw [upd_ne hb]
      exact s15 _ _ e
    have nql : ∀ q ∈ L, q.1 ≠ p := fun q hq => ne_of (hL q hq) hp (by intro z; cases z)
    have nlp : SqL K (upd H5 p (.ins C dx (putF "_knots" (.ref kl) []))) l (L.map fun q : Addr × Sm Str => V.ref q.1) := by
      rcases hl with (h | ⟨o, h⟩) | h
      · exact .inl (.inl (keep _ _ h (ne_of h hp (by intro z; cases z))))
      · exact .inl (.inr ⟨o, keep _ _ h (ne_of h hp (by intro z; cases z))⟩)
      · exact .inr h
    refine ⟨_, rfl, l, L, rfl, nlp, (fun q hq => keep _ _ (hL q hq) (nql q hq)), by omega, fun L' sl pl ns => ?_⟩
    have nps : p ≠ sl := ne_of_none upd_same ns
    have nks : kl ≠ sl := ne_of_none (by rw [upd_ne npk.symm]; exact hk5) ns
    refine ⟨_, rfl, p, C, dx, _, rfl, (by rw [upd_ne nps]; exact upd_same), T.cl, T.nS, (by show 1 < 1000; decide), ?_⟩
    refine q _ kn' L' (fun b o e hb => ?_) pk pl ⟨?_, dx, kl, sl, L', upd_same, ?_, ?_, ?_, rfl⟩
    · rw [upd_ne hb, upd_ne (ne_of_none (keep b o e hb) ns)]
      exact keep b o e hb
    · have pg : (L'.map (·.2)).Perm (L.map (·.2)) := pl.map _
      refine ⟨fun z => wf.kne (by rw [z] at pk; exact pk.symm.eq_nil), by rw [pk.length_eq]; exact wf.klen, pk.nodup_iff.mpr wf.knd, fun x hx => wf.kok x (pk.mem_iff.mp hx), by rw [pg.length_eq]; exact wf.glen,
        (pg.map _).nodup_iff.mpr wf.gnd, fun e he => ?_⟩
      obtain ⟨a1, a2, a3, a4⟩ := wf.gok e (pg.mem_iff.mp he)
      exact ⟨a1, pk.mem_iff.mpr a2, pk.mem_iff.mpr a3, a4⟩
    · rw [upd_ne npk.symm, upd_ne nks, upd_ne npk.symm]
      exact hk5
    · rw [upd_ne nps.symm, upd_same]
    · intro q hq
      have hq' := pl.mem_iff.mp hq
      have h0 := keep _ _ (hL q hq') (nql q hq')
      rw [upd_ne (nql q hq'), upd_ne (ne_of_none h0 ns)]
      exact h0
/-! ### knots, streams -/
theorem sc_knots : FnScope ["self"] ["self"] (defScope sKnots) := ⟨rfl, rfl, rfl, by decide +kernel, rfl, by decide +kernel, by decide +kernel⟩
theorem ok_knots {f : Addr} {fd : FuncData} (F : Fun K "knots" "Plant.knots" sKnots f fd) (T : Txt K mg C) : FnOk P w K mg base CX0 1 f fd ["self"] (spKnots C) := by
  refine F.ok sc_knots (fun vs H Q E h => ?_) (fun cdv A outer s H vs Q E hr h => ?_)
  · obtain ⟨p, kn, G, rfl, _⟩ := h
    rfl
  · obtain ⟨p, kn, G, rfl, ⟨wf, dx, kl, sl, L, h1, h2, h3, h4, h5⟩, q⟩ := h
    refine ⟨_, pss_one (ps_ret (pe_callTy call_list_of (by rfl) T.list (by decide +kernel) (pa_cons (pe_fld (pv 0) rfl) pa_nil))), ?_⟩
    refine ⟨_, rfl, p, C, dx, _, _, rfl, h1, T.cl, T.nK, pflds_k _ _, kl, _, rfl, .inl (sq h2), fun l nl => ?_⟩
    exact q l _ (same_upd nl) upd_same
theorem sc_streams : FnScope ["self"] ["self"] (defScope sStreams) := ⟨rfl, rfl, rfl, by decide +kernel, rfl, by decide +kernel, by decide +kernel⟩
theorem ok_streams {f : Addr} {fd : FuncData} (F : Fun K "streams" "Plant.streams" sStreams f fd) (T : Txt K mg C) : FnOk P w K mg base CX0 1 f fd ["self"] (spStreams C) := by
  refine F.ok sc_streams (fun vs H Q E h => ?_) (fun cdv A outer s H vs Q E hr h => ?_)
  · obtain ⟨p, kn, G, rfl, _⟩ := h
    rfl
  · obtain ⟨p, kn, G, rfl, ⟨wf, dx, kl, sl, L, h1, h2, h3, h4, h5⟩, q⟩ := h
    refine ⟨_, pss_one (ps_ret (pe_callTy call_list_of (by rfl) T.list (by decide +kernel) (pa_cons (pe_fld (pv 0) rfl) pa_nil))), ?_⟩
    refine ⟨_, rfl, p, C, dx, _, _, rfl, h1, T.cl, T.nS, pflds_s _ _, sl, _, rfl, .inl (sq h3), fun l nl => ?_⟩
    exact q l _ L nl (same_upd nl) upd_same (smsAt_same h4 (same_upd nl)) h5
/-! ### stream_names -/
theorem sc_names : FnScope ["self", "stream"] ["self"] (defScope sNames) := ⟨rfl, rfl, rfl, by decide +kernel, rfl, by decide +kernel, by decide +kernel⟩
theorem ok_names {f : Addr} {fd : FuncData} (F : Fun K "stream_names" "Plant.stream_names" sNames f fd) (T : Txt K mg C) : FnOk P w K mg base CX0 1 f fd ["self"] (spNames C) := by
  refine F.ok sc_names (fun vs H Q E h => ?_) (fun cdv A outer s H vs Q E hr h => ?_)
  · obtain ⟨p, kn, G, rfl, _⟩ := h
    rfl
  · obtain ⟨p, kn, G, rfl, ⟨wf, dx, kl, sl, L, h1, h2, h3, h4, rfl⟩, q⟩ := h
    have hg := wf.glen
    rw [List.length_map] at hg
    refine ⟨_, pss_one (ps_ret (pe_lc (own := [("stream", 1)]) (g := gName 1) (by rfl) sc_names.nd (pi_list (pe_fld (pv 0) rfl)) (blkOk_by (own := [("stream", 1)]) (N := ["self", "stream"]) (sc := defScope sNames) (by decide +kernel))
            (fun _ _ _ _ _ => pg_name (i := 1) sc_names.nd rfl (Or.inl rfl)) (fun _ _ _ _ _ => pts_nil) (fun _ _ _ _ _ => pe_ix (r := rIxT K) ix_tup (pv 1) pe_int (fun _ _ => rfl)))), ?_⟩
    refine ⟨_, rfl, p, C, dx, _, _, rfl, h1, T.cl, T.nS, pflds_s _ _, sl, rfl, ⟨_, sq h3⟩, fun D hD => ?_⟩
    refine lc_all (walk_list (xs := L.map fun q : Addr × Sm Str => V.ref q.1)) hD (by rw [List.length_map]; omega) (fun H' s' => s'.seq (sq h3)) (fun i acc _ => acc = (L.take i).map fun q => V.str q.2.nm) rfl (fun _ _ _ _ _ h => h) (fun i acc _ h => by rw [h, List.length_map, List.length_take]; omega) ?_ ?_
    · rintro i v H3 H4 acc hi s3 ha3 rfl ⟨rfl, hv⟩ N kT
      obtain ⟨e, he, rfl⟩ := refs_getElem hv
      have hm := List.mem_of_getElem? he
      refine ⟨rfl, _, rfl, e.1, _, 0, V.str e.2.nm, rfl, rfl, st (s3 _ _ (h4 e hm)), rfl, kT _ _ (Same.refl _) ?_⟩
      rw [List.take_add_one, he, List.map_append]
      rfl
    · rintro H3 acc s3 ha3 rfl
      refine q D H3 s3 ?_
      rw [ha3, List.length_map, List.take_length]
      unfold nms
      rw [List.map_map, List.map_map]
      rfl
/-! ### stream_named -/
theorem sc_named : FnScope ["self", "name", "stream"] ["self", "name"] (defScope sNamed) := ⟨rfl, rfl, rfl, by decide +kernel, rfl, by decide +kernel, by decide +kernel⟩
theorem ok_named {f : Addr} {fd : FuncData} (F : Fun K "stream_named" "Plant.stream_named" sNamed f fd) (T : Txt K mg C) : FnOk P w K mg base CX0 1 f fd ["self", "name"] (spNamed C) := by
  refine F.ok sc_named (fun vs H Q E h => ?_) (fun cdv A outer s H vs Q E hr h => ?_)
  · obtain ⟨p, kn, G, e, rfl, _⟩ := h
    rfl
  · obtain ⟨p, kn, G, e, rfl, ⟨wf, dx, kl, sl, L, h1, h2, h3, h4, rfl⟩, he, q⟩ := h
    refine ⟨_, pss_cons (ps_for PassesOwn.never rfl (pi_list (pe_fld (pv 0) rfl)) (pg_name (i := 2) sc_named.nd rfl (Or.inl rfl))
        (pss_one (ps_if (pt_cmpR op_eq (pe_ix ix_tup (pv 2) pe_int (fun _ _ => rfl)) (pv 1) (nomark _)) (pss_one (ps_ret (pv 2))) pss_nil))) (pss_one ps_never), ?_⟩
    refine ⟨_, rfl, p, C, dx, _, _, rfl, h1, T.cl, T.nS, pflds_s _ _, sl, rfl, ⟨_, sq h3⟩, for_list (K := K) (a := sl) (xs := L.map fun q : Addr × Sm Str => V.ref q.1) (fun i σ H' => H' = H ∧ (∃ v, σ = [some (.ref p), some (.str e.nm), v]) ∧ ∀ j x, j < i → L[j]? = some x → x.2.nm ≠ e.nm)
      ⟨rfl, ⟨none, rfl⟩, fun j x hj => absurd hj (Nat.not_lt_zero _)⟩ (fun i σ H' _ h => by rw [h.1]; exact sq h3) ?_ ?_⟩
    · rintro i v σ H' hv ⟨rfl, ⟨v0, rfl⟩, no⟩
      obtain ⟨x, hx, rfl⟩ := refs_getElem hv
      have hm := List.mem_of_getElem? hx
      refine ⟨_, rfl, x.1, _, 0, V.str x.2.nm, rfl, rfl, st (h4 x hm), rfl, _, rfl, rfl, _, rfl, ite2 (fun hc => ?_) (fun hc => ?_)⟩
      · have en : x.2.nm = e.nm := by simpa using hc
        have ex : x.2 = e := wf.uq x.2 (List.mem_map.mpr ⟨x, hm, rfl⟩) e he en
        exact ⟨_, rfl, q x.1 H' (Same.refl _) (by rw [← ex]; exact h4 x hm)⟩
      · refine ⟨rfl, ⟨_, rfl⟩, fun j y hj hy => ?_⟩
        rcases Nat.lt_or_ge j i with h | h
        · exact no j y h hy
        · have : j = i := by omega
          subst this
          rw [hx] at hy
          cases hy
          intro z
          exact hc (by rw [z]; simp)
    · rintro σ H' ⟨rfl, _, no⟩
      obtain ⟨x, hx, rfl⟩ := List.mem_map.mp he
      obtain ⟨j, hj⟩ := List.mem_iff_getElem?.mp hx
      have hjl : j < (L.map fun q : Addr × Sm Str => V.ref q.1).length := by rw [List.length_map]; exact (List.getElem?_eq_some_iff.mp hj).1
      exact no j x hjl hj rfl
end
end Msr
end
section
/-! check_names, ends_of, tied, lots_by. -/
namespace Msr
open PySem PySem.Spec PyProof.Rows L2 Ms MsLow
section
variable {P : Program} {w : World} {K : PySem.W.Frag} {mg : Str → Option Value} {base : Heap} {C : Addr}
theorem strs_getElem {L : List Str} {i : Nat} {v : V} (h : (L.map V.str)[i]? = some v) : ∃ x, L[i]? = some x ∧ v = .str x := by
  rw [List.getElem?_map] at h
  obtain ⟨q, hq, rfl⟩ := Option.map_eq_some_iff.mp h
  exact ⟨q, hq, rfl⟩
/-! ### check_names -/
theorem sc_check : FnScope ["plant", "names", "known", "name"] ["plant", "names"] (defScope sCheck) := ⟨rfl, rfl, rfl, by decide +kernel, rfl, by decide +kernel, by decide +kernel⟩
theorem ok_check {f m1 : Addr} {fd md1 : FuncData} (F : Fun K "check_names" "check_names" sCheck f fd) (T : Txt K mg C) (M1 : Met P w K mg base C 1 "stream_names" ["self"] (spNames C) m1 md1) :
    FnOk P w K mg base CX0 2 f fd ["plant", "names"] (spCheck K C) := by
  refine F.ok sc_check (fun vs H Q E h => ?_) (fun cdv A outer s H vs Q E hr h => ?_)
  · obtain ⟨p, l, kn, G, ns, rfl, _⟩ := h
    rfl
  · obtain ⟨p, l, kn, G, ns, rfl, hp, hn, q⟩ := h
    obtain ⟨dx, kl, sl, L, h1, _⟩ := hp.at_
    have hlen := hn.len hp.wf
    refine ⟨_, pss_cons (ps_set (i := 2) sc_check.nd rfl (.inl rfl) (pe_meth0 (pv 0) T.cl M1.mt M1.ok hr M1.bd .nil pass0))
      (pss_one (ps_for PassesOwn.never rfl (pi_list (pe_callB cr_sortedS (by rfl) T.sorted (by decide +kernel) (pa_cons (pv 1) pa_nil))) (pg_name (i := 3) sc_check.nd rfl (Or.inl rfl))
        (pss_one (ps_if (pt_cmpR op_notIn_seq (pv 3) (pv 2) (by rfl)) (pss_one ps_never) pss_nil)))), ?_⟩
    refine ⟨_, rfl, p, dx, _, rfl, h1, pflds_no _ _ (by decide +kernel) (by decide +kernel), p, kn, G, rfl, hp, fun b H1 s1 hb => ?_⟩
    refine ⟨_, rfl, l, ns, rfl, s1.seq hn.sq, by omega, fun ys p2 pm _ np2 => ?_⟩
    have s2 : Same H1 (upd H1 p2 (.lst (ys.map V.str))) := same_upd np2
    generalize hH2 : upd H1 p2 (.lst (ys.map V.str)) = H2 at s2
    have hy : H2 p2 = some (.lst (ys.map V.str)) := by rw [← hH2, upd_same]
    refine ⟨p2, rfl, ⟨_, sq hy⟩, for_list (K := K) (a := p2) (xs := ys.map V.str) (fun i σ H' => H' = H2 ∧ ∃ v, σ = [some (.ref p), some (.ref l), some (.ref b), v])
      ⟨rfl, none, rfl⟩ (fun i σ H' _ h => by rw [h.1]; exact sq hy) ?_ ?_⟩
    · rintro i v σ H' hv ⟨rfl, v0, rfl⟩
      obtain ⟨x, hx, rfl⟩ := strs_getElem hv
      have hm := hn.sub x (pm.mem_iff.mp (List.mem_of_getElem? hx))
      refine ⟨_, rfl, _, rfl, b, _, rfl, .inl (sq (s2 _ _ hb)), rfl, flat_strs _, false, ?_, iteF ⟨rfl, _, rfl⟩⟩
      show V.bl (!inV (.str x) ((nms G).map V.str)) = V.bl false
      rw [inV_str, decide_eq_true hm]
      rfl
    · rintro σ H' ⟨rfl, _⟩
      exact q _ (s1.trans s2)
/-! ### ends_of -/
theorem sc_ends : FnScope ["plant", "name", "_", "tail", "head"] ["plant", "name"] (defScope sEnds) := ⟨rfl, rfl, rfl, by decide +kernel, rfl, by decide +kernel, by decide +kernel⟩
theorem ok_ends {f m1 : Addr} {fd md1 : FuncData} (F : Fun K "ends_of" "ends_of" sEnds f fd) (T : Txt K mg C) (M1 : Met P w K mg base C 1 "stream_named" ["self", "name"] (spNamed C) m1 md1) :
    FnOk P w K mg base CX0 2 f fd ["plant", "name"] (spEnds C) := by
  refine F.ok sc_ends (fun vs H Q E h => ?_) (fun cdv A outer s H vs Q E hr h => ?_)
  · obtain ⟨p, kn, G, e, rfl, _⟩ := h
    rfl
  · obtain ⟨p, kn, G, e, rfl, hp, he, q⟩ := h
    obtain ⟨dx, kl, sl, L, h1, _⟩ := hp.at_
    refine ⟨_, pss_cons (ps_asg (pe_meth (pv 0) T.cl M1.mt M1.ok hr M1.bd .nil pass0 (pa_cons (pv 1) pa_nil)) (pg_tup (by rfl) (pgs_cons (pg_name (i := 2) sc_ends.nd rfl (.inl rfl)) (pgs_cons (pg_name (i := 3) sc_ends.nd rfl (.inl rfl)) (pgs_cons (pg_name (i := 4) sc_ends.nd rfl (.inl rfl))
        (pgs_cons (pg_name (i := 2) sc_ends.nd rfl (.inl rfl)) (pgs_cons (pg_name (i := 2) sc_ends.nd rfl (.inl rfl)) pgs_nil)))))))
      (pss_one (ps_ret (pe_tup (pa_cons (pv 3) (pa_cons (pv 4) pa_nil))))), ?_⟩
    refine ⟨_, rfl, p, dx, _, rfl, h1, pflds_no _ _ (by decide +kernel) (by decide +kernel), _, rfl, p, kn, G, e, rfl, hp, he, fun t H1 s1 ht => ?_⟩
    refine ⟨t, _, rfl, st ht, rfl, _, _, rfl, _, _, rfl, _, _, rfl, _, _, rfl, _, _, rfl, rfl, ?_⟩
    refine ⟨_, rfl, _, rfl, by show 2 ≤ sizeLine; decide, fun t2 nt2 => ?_⟩
    exact q t2 _ (s1.trans (same_upd nt2)) upd_same
/-! ### tied -/
theorem kv_at : ∀ {kn : List Str} {f : Str → Str} {x : Str}, x ∈ kn → valV (lotsKV kn f) (Sum.inr x : Key) = some (.str (f x))
  | k :: kn, f, x, h => by
    by_cases e : k = x
    · subst e
      exact valV_pos (p := (Sum.inr k, V.str (f k))) rfl
    · have hx : x ∈ kn := by
        rcases List.mem_cons.mp h with h | h
        · exact absurd h.symm e
        · exact h
      show valV ((Sum.inr k, V.str (f k)) :: lotsKV kn f) _ = _
      rw [valV_neg (p := (Sum.inr k, V.str (f k))) (fun q => e (Sum.inr.inj q))]
      exact kv_at hx
theorem kv_no {kn : List Str} {f : Str → Str} {x : Str} (h : x ∉ kn) : valV (lotsKV kn f) (Sum.inr x : Key) = none := by
  induction kn with
  | nil => rfl
  | cons k kn ih =>
    rw [List.mem_cons, not_or] at h
    show valV ((Sum.inr k, V.str (f k)) :: lotsKV kn f) _ = _
    rw [valV_neg (p := (Sum.inr k, V.str (f k))) (fun q => h.1 (Sum.inr.inj q).symm)]
    exact ih h.2
theorem kv_put {kn : List Str} {f : Str → Str} {i : Nat} {k : Str} (nd : kn.Nodup) (h : kn[i]? = some k) : putK (lotsKV (kn.take i) f) (Sum.inr k : Key) (.str (f k)) = lotsKV (kn.take (i + 1)) f := by
  have hn : k ∉ kn.take i := by
    intro hm
    obtain ⟨j, hj⟩ := List.mem_iff_getElem?.mp hm
    have hji : j < i := by
      have := (List.getElem?_eq_some_iff.mp hj).1
      rw [List.length_take] at this
      omega
    rw [List.getElem?_take_of_lt hji] at hj
    have := nd_ix nd hj h
    omega
  rw [putK_new _ (kv_no hn), List.take_add_one, h]
  unfold lotsKV
  rw [List.map_append]
  rfl
theorem kv_get {kn : List Str} {f : Str → Str} {H : Hp} {d : Addr} {x : Str} (hd : H d = some (.dK (lotsKV kn f))) (hx : x ∈ kn) : DGet H d (.str x) (some (.str (f x))) := by
  have h := DGet.k (k := (Sum.inr x : Key)) hd
  rw [kv_at hx] at h
  exact h
theorem sc_tied : FnScope ["lots", "one", "other", "old", "new", "knot", "lot"] ["lots", "one", "other"] (defScope sTied) := ⟨rfl, rfl, rfl, by decide +kernel, rfl, by decide +kernel, by decide +kernel⟩
theorem ok_tied {f : Addr} {fd : FuncData} (F : Fun K "tied" "tied" sTied f fd) (T : Txt K mg C) : FnOk P w K mg base CX0 1 f fd ["lots", "one", "other"] spTied := by
  refine F.ok sc_tied (fun vs H Q E h => ?_) (fun cdv A outer s H vs Q E hr h => ?_)
  · obtain ⟨d, a, b, kn, f, rfl, _⟩ := h
    rfl
  · obtain ⟨d, a, b, kn, f, rfl, hd, nd, hlen, ha, hb, q⟩ := h
    have hu := hu_of hr
    refine ⟨_, pss_cons (ps_asg (pe_tup (pa_cons (pe_callB (call_max2S rfl) (by rfl) T.max (by decide +kernel) (pa_cons (pe_dget hu (pv 0) (pv 1) (fun _ _ => rfl)) (pa_cons (pe_dget hu (pv 0) (pv 2) (fun _ _ => rfl)) pa_nil)))
        (pa_cons (pe_callB (call_min2S rfl) (by rfl) T.min (by decide +kernel) (pa_cons (pe_dget hu (pv 0) (pv 1) (fun _ _ => rfl)) (pa_cons (pe_dget hu (pv 0) (pv 2) (fun _ _ => rfl)) pa_nil))) pa_nil)))
        (pg_tup (by rfl) (pgs_cons (pg_name (i := 3) sc_tied.nd rfl (.inr rfl)) (pgs_cons (pg_name (i := 4) sc_tied.nd rfl (.inr rfl)) pgs_nil))))
      (pss_one (ps_ret (pe_lock (pe_dc (own := [("knot", 5), ("lot", 6)]) (g := gTup K 2 (gCons (gName 5) (gCons (gName 6) gNil))) (by rfl) sc_tied.nd (pi_items (pv 0))
        (blkOk_by (own := [("knot", 5), ("lot", 6)]) (N := ["lots", "one", "other", "old", "new", "knot", "lot"]) (sc := defScope sTied) (by decide +kernel))
        (fun _ _ _ _ _ => pg_tup (by rfl) (pgs_cons (pg_name (i := 5) sc_tied.nd rfl (Or.inl rfl)) (pgs_cons (pg_name (i := 6) sc_tied.nd rfl (Or.inl rfl)) pgs_nil))) (fun _ _ _ _ _ => pts_nil) (fun _ _ _ _ _ => pv 5)
        (fun _ _ _ _ _ => pe_ifExp (pt_cmpR op_eq (pv 6) (pv 3) (nomark _)) (pv 4) (pv 6)))))), ?_⟩
    have g1 := kv_get hd ha
    have g2 := kv_get hd hb
    refine ⟨_, rfl, _, rfl, d, _, rfl, g1, _, rfl, _, rfl, d, _, rfl, g2, _, _, rfl, ?_⟩
    refine ⟨_, rfl, _, rfl, d, _, rfl, g1, _, rfl, _, rfl, d, _, rfl, g2, _, _, rfl, by show 2 ≤ sizeLine; decide, fun t nt => ?_⟩
    refine ⟨t, _, rfl, st upd_same, rfl, _, _, rfl, _, _, rfl, rfl, ?_⟩
    have s1 : Same H (upd H t (.tup [.str (bigger (f a) (f b)), .str (lesser (f a) (f b))])) := same_upd nt
    generalize hH1 : upd H t (.tup [.str (bigger (f a) (f b)), .str (lesser (f a) (f b))]) = H1 at s1
    have hd1 := s1 _ _ hd
    refine ⟨d, _, hd1, trivial, fun od => ?_⟩
    refine ⟨_, rfl, d, od, _, rfl, upd_same, fun D hD => ?_⟩
    refine dc_all walk_items hD (by unfold lotsKV; rw [List.length_map]; omega) (fun H' s' => s' _ _ upd_same) (fun i acc _ => acc = lotsKV (kn.take i) (tieF f a b)) rfl (fun _ _ _ _ _ h => h)
      (fun i acc _ h => by rw [h]; unfold lotsKV; rw [List.length_map, List.length_take]; omega) ?_ ?_
    · rintro i v H2 H3 acc hi s2 ha rfl ⟨T2, x, y, rfl, nT, rfl, ex, ey⟩ N kT
      have hil : i < kn.length := by
        unfold lotsKV at hi
        rw [List.length_map] at hi
        exact hi
      have hk : kn[i]? = some kn[i] := List.getElem?_eq_getElem hil
      have hkv : (lotsKV kn f)[i]? = some (Sum.inr kn[i], V.str (f kn[i])) := by
        unfold lotsKV
        rw [List.getElem?_map, hk]
        rfl
      dsimp only at ex ey
      rw [hkv] at ex ey
      obtain rfl : V.str kn[i] = x := Option.some.inj ex
      obtain rfl : V.str (f kn[i]) = y := Option.some.inj ey
      refine ⟨T2, _, rfl, st upd_same, rfl, _, _, rfl, _, _, rfl, rfl, rfl, ?_⟩
      refine ⟨_, rfl, ?_⟩
      have fin : ∀ z, z = V.str (tieF f a b kn[i]) → ∃ kvs k', V.str kn[i] = kV k' ∧ (upd H2 T2 (.tup [V.str kn[i], V.str (f kn[i])])) D = some (.dK kvs) ∧ kvs.length < sizeLine ∧ N (upd (upd H2 T2 (.tup [V.str kn[i], V.str (f kn[i])])) D (.dK (putK kvs k' z))) := by
        rintro z rfl
        exact kT (Sum.inr kn[i]) _ _ (same_upd nT) (kv_put nd hk)
      refine ⟨_, rfl, _, rfl, rfl, _, rfl, ite2 (fun hc => ?_) (fun hc => ?_)⟩
      · refine ⟨_, rfl, fin _ ?_⟩
        have : f kn[i] = bigger (f a) (f b) := by simpa using hc
        unfold tieF
        rw [if_pos this]
      · refine ⟨_, rfl, fin _ ?_⟩
        have : ¬ f kn[i] = bigger (f a) (f b) := by simpa using hc
        unfold tieF
        rw [if_neg this]
    · rintro H2 acc s2 ha2 rfl
      refine ⟨s2 _ _ upd_same, ?_⟩
      have ndD : D ≠ d := by
        intro z
        rw [z, upd_same] at hD
        cases hD
      refine q D _ (s1.trans fun c o e => ?_) ?_
      · by_cases hc : c = d
        · subst hc
          rw [upd_same, ← hd1]
          exact e
        · rw [upd_ne hc]
          exact s2 c o (by rw [upd_ne hc]; exact e)
      · rw [upd_ne ndD, ha2]
        unfold lotsKV
        rw [List.length_map, List.take_length]
/-! ### lots_by -/
theorem find_nm {G : List (Sm Str)} (uq : Uq G) {e : Sm Str} (he : e ∈ G) : G.find? (fun x => decide (x.nm = e.nm)) = some e := by
  cases h : G.find? (fun x => decide (x.nm = e.nm)) with
  | none => exact absurd (List.find?_eq_none.mp h e he) (by simp)
  | some x =>
    have h1 := List.find?_some h
    have h2 := List.mem_of_find?_eq_some h
    rw [uq x h2 e he (by simpa using h1)]
theorem sc_lots : FnScope ["plant", "names", "lots", "name", "tail", "head", "knot"] ["plant", "names"] (defScope sLots) := ⟨rfl, rfl, rfl, by decide +kernel, rfl, by decide +kernel, by decide +kernel⟩
theorem ok_lots {f f1 f2 f3 p1 g1 : Addr} {fd fd1 fd2 fd3 gd1 : FuncData} (F : Fun K "lots_by" "lots_by" sLots f fd) (T : Txt K mg C) (C1 : Cal P w K mg base 2 "check_names" ["plant", "names"] (spCheck K C) f1 fd1)
    (C2 : Cal P w K mg base 2 "ends_of" ["plant", "name"] (spEnds C) f2 fd2) (C3 : Cal P w K mg base 1 "tied" ["lots", "one", "other"] spTied f3 fd3) (R1 : Prp P w K mg base C 1 "knots" (spKnots C) p1 g1 gd1) :
    FnOk P w K mg base CX0 3 f fd ["plant", "names"] (spLots K C) := by
  refine F.ok sc_lots (fun vs H Q E h => ?_) (fun cdv A outer s H vs Q E hr h => ?_)
  · obtain ⟨p, l, kn, G, ns, rfl, _⟩ := h
    rfl
  · obtain ⟨p, l, kn, G, ns, rfl, hp, hn, q⟩ := h
    obtain ⟨dx, kl, sl, L, h1, _⟩ := hp.at_
    have hr1 : Room 1 _ := hr.mono (by decide)
    have hlen := hn.len hp.wf
    have wf := hp.wf
    refine ⟨_, pss_cons (ps_expr (pe_call C1.ok hr rfl C1.mg_ C1.kp C1.bd .nil pass0 (pa_cons (pv 0) (pa_cons (pv 1) pa_nil))))
      (pss_cons (ps_setDc (i := 2) (own := [("knot", 6)]) (g := gName 6) (by rfl) sc_lots.nd rfl rfl (sw_trueD rfl rfl rfl (by decide +kernel)) (pi_list (pe_prop (pv 0) T.cl R1.pr R1.ok hr R1.bd .nil pass0 (by rfl)))
        (blkOk_by (own := [("knot", 6)]) (N := ["plant", "names", "lots", "name", "tail", "head", "knot"]) (sc := defScope sLots) (by decide +kernel))
        (fun _ _ _ _ _ => pg_name (i := 6) sc_lots.nd rfl (Or.inl rfl)) (fun _ _ _ _ _ => pts_nil) (fun _ _ _ _ _ => pv 6) (fun _ _ _ _ _ => pv 6))
      (pss_cons (ps_for PassesOwn.never rfl (pi_list (pv 1)) (pg_name (i := 3) sc_lots.nd rfl (Or.inl rfl))
        (pss_cons (ps_asg (pe_call C2.ok hr rfl C2.mg_ C2.kp C2.bd .nil pass0 (pa_cons (pv 0) (pa_cons (pv 3) pa_nil))) (pg_tup (by rfl) (pgs_cons (pg_name (i := 4) sc_lots.nd rfl (.inl rfl)) (pgs_cons (pg_name (i := 5) sc_lots.nd rfl (.inl rfl)) pgs_nil))))
        (pss_one (ps_set (i := 2) sc_lots.nd rfl (.inl rfl) (pe_call C3.ok hr1 rfl C3.mg_ C3.kp C3.bd .nil pass0 (pa_cons (pv 2) (pa_cons (pv 4) (pa_cons (pv 5) pa_nil))))))))
      (pss_one (ps_ret (pv 2))))), ?_⟩
    refine ⟨_, rfl, _, rfl, p, l, kn, G, ns, rfl, hp, hn, fun H1 s1 => ?_⟩
    -- lots = {knot: knot ..}
    have hp1 := hp.same s1
    refine ⟨_, rfl, p, dx, _, rfl, s1 _ _ h1, p, kn, G, rfl, hp1, fun kl2 H2 s2 hk2 => ?_⟩
    refine ⟨kl2, rfl, ⟨_, sq hk2⟩, fun D hD => ?_⟩
    refine dc_all (walk_list (xs := kn.map V.str)) hD (by rw [List.length_map]; have := wf.klen; omega) (fun H' s' => s'.seq (sq hk2)) (fun i acc _ => acc = lotsKV (kn.take i) id) rfl (fun _ _ _ _ _ h => h)
      (fun i acc _ h => by rw [h]; unfold lotsKV; rw [List.length_map, List.length_take]; omega) ?_ ?_
    · rintro i v H3 H4 acc hi s3 ha rfl ⟨rfl, hv⟩ N kT
      obtain ⟨x, hx, rfl⟩ := strs_getElem hv
      refine ⟨rfl, _, rfl, _, rfl, kT (Sum.inr x) _ _ (Same.refl _) (kv_put (f := id) wf.knd hx)⟩
    rintro H3 acc s3 ha3 rfl
    rw [List.length_map, List.take_length] at ha3
    have s13 := s1.trans (s2.trans s3)
    -- for name in names
    refine ⟨_, rfl, l, rfl, ⟨_, s13.seq hn.sq⟩, for_list (K := K) (a := l) (xs := ns.map V.str) (fun i σ H' => Same H H' ∧ ∃ d v3 v4 v5, σ = [some (.ref p), some (.ref l), some (.ref d), v3, v4, v5, none] ∧ H' d = some (.dK (lotsKV kn (lotF G (ns.take i)))))
      ⟨s13, D, none, none, none, rfl, ha3⟩ (fun i σ H' _ h => h.1.seq hn.sq) ?_ ?_⟩
    · rintro i v σ H' hv ⟨s4, d, v3, v4, v5, rfl, hd⟩
      obtain ⟨x, hx, rfl⟩ := strs_getElem hv
      obtain ⟨e, he, rfl⟩ := List.mem_map.mp (hn.sub x (List.mem_of_getElem? hx))
      obtain ⟨_, e1, e2, _⟩ := wf.gok e he
      refine ⟨_, rfl, _, rfl, p, kn, G, e, rfl, hp.same s4, he, fun t H5 s5 ht => ?_⟩
      refine ⟨t, _, rfl, st ht, rfl, _, _, rfl, _, _, rfl, rfl, ?_⟩
      refine ⟨_, rfl, _, rfl, _, rfl, d, e.tl, e.hd, kn, _, rfl, s5 _ _ hd, wf.knd, wf.klen, e1, e2, fun d' H6 s6 hd' => ?_⟩
      refine ⟨s4.trans (s5.trans s6), d', _, _, _, rfl, ?_⟩
      rw [hd']
      congr 3
      rw [List.take_add_one, hx]
      unfold lotF
      rw [Option.toList_some, List.foldl_append, List.foldl_cons, List.foldl_nil, find_nm wf.uq he]
    · rintro σ H' ⟨s4, d, v3, v4, v5, rfl, hd⟩
      rw [List.length_map, List.take_length] at hd
      exact ⟨_, rfl, q d H' s4 hd⟩
end
end Msr
end
section
/-! The search by levels, in plain Lean. -/
namespace Msr
open PySem PySem.Spec PyProof.Rows L2 Ms MsLow
theorem look_mem {L : List (Str × Nat)} {x : Str} {l : Nat} (h : look L x = some l) : (x, l) ∈ L := by
  unfold look at h
  obtain ⟨q, hq, rfl⟩ := Option.map_eq_some_iff.mp h
  have h1 := List.find?_some hq
  have h2 := List.mem_of_find?_eq_some hq
  have : q.1 = x := by simpa using h1
  subst this
  exact h2
theorem look_none {L : List (Str × Nat)} {x : Str} (h : look L x = none) : x ∉ L.map (·.1) := by
  unfold look at h
  intro hm
  obtain ⟨q, hq, rfl⟩ := List.mem_map.mp hm
  have h' := Option.map_eq_none_iff.mp h
  exact absurd (List.find?_eq_none.mp h' q hq) (by simp)
theorem look_snoc {L : List (Str × Nat)} {y : Str} {m : Nat} (hy : look L y = none) (x : Str) : look (L ++ [(y, m)]) x = if x = y then some m else look L x := by
  unfold look at hy ⊢
  rw [List.find?_append]
  by_cases e : x = y
  · subst e
    rw [if_pos rfl, Option.map_eq_none_iff.mp hy]
    simp
  · rw [if_neg e]
    have : List.find? (fun q : Str × Nat => decide (q.1 = x)) [(y, m)] = none := by
      rw [List.find?_cons, show decide (((y, m) : Str × Nat).1 = x) = false from decide_eq_false fun q => e q.symm]
      rfl
    rw [this, Option.or_none]
theorem lv_at (L : List (Str × Nat)) (x : Str) : valV (lvKV L) (Sum.inr x : Key) = (look L x).map fun n => V.int (n : Int) := by
  induction L with
  | nil => rfl
  | cons q L ih =>
    by_cases e : q.1 = x
    · subst e
      have h1 : look (q :: L) q.1 = some q.2 := by simp [look, List.find?_cons]
      rw [h1]
      exact valV_pos (p := (Sum.inr q.1, V.int (q.2 : Int))) rfl
    · have h1 : look (q :: L) x = look L x := by simp [look, List.find?_cons, e]
      rw [h1, ← ih]
      exact valV_neg (p := (Sum.inr q.1, V.int (q.2 : Int))) (fun z => e (Sum.inr.inj z))
theorem lv_put {L : List (Str × Nat)} {y : Str} {m : Nat} (hy : look L y = none) : putK (lvKV L) (Sum.inr y : Key) (.int (m : Int)) = lvKV (L ++ [(y, m)]) := by
  rw [putK_new _ (by rw [lv_at, hy]; rfl)]
  unfold lvKV
  rw [List.map_append]
  rfl
/-- the state between two turns of the search -/
structure Bfs (G : List (Sm Str)) (kn ns : List Str) (goal : Str) (L : List (Str × Nat)) (ws : List Str) : Prop where
  nd : (L.map (·.1)).Nodup
  sub : ∀ q ∈ L, q.1 ∈ kn
  base : look L goal = some 0
  ins : ∀ x ∈ ws, ∃ l, look L x = some l
  srt : ws.Pairwise fun a b => ∀ la lb, look L a = some la → look L b = some lb → la ≤ lb
  top : ∀ x r, ws = x :: r → ∀ y lx ly, look L x = some lx → look L y = some ly → ly ≤ lx + 1
  done : ∀ x l, look L x = some l → x ∉ ws → ∀ e ∈ G, e.nm ∈ ns → ∀ y, Jn e x y → ∃ l', look L y = some l' ∧ l' ≤ l + 1
  back : ∀ x l, look L x = some l → x = goal ∨ ∃ e ∈ G, e.nm ∈ ns ∧ ∃ y l', Jn e x y ∧ look L y = some l' ∧ l' < l
/-- the state within the turn of here, at level lh; the steps so far led to seen -/
structure Mid (G : List (Sm Str)) (kn ns : List Str) (goal here : Str) (lh : Nat) (seen : List Str) (L : List (Str × Nat)) (ws : List Str) : Prop where
  nd : (L.map (·.1)).Nodup
  sub : ∀ q ∈ L, q.1 ∈ kn
  base : look L goal = some 0
  at_ : look L here = some lh
  ins : ∀ x ∈ ws, ∃ l, look L x = some l ∧ lh ≤ l
  srt : ws.Pairwise fun a b => ∀ la lb, look L a = some la → look L b = some lb → la ≤ lb
  top : ∀ y ly, look L y = some ly → ly ≤ lh + 1
  done : ∀ x l, look L x = some l → x ∉ ws → x ≠ here → ∀ e ∈ G, e.nm ∈ ns → ∀ y, Jn e x y → ∃ l', look L y = some l' ∧ l' ≤ l + 1
  cur : ∀ y ∈ seen, ∃ l', look L y = some l' ∧ l' ≤ lh + 1
  back : ∀ x l, look L x = some l → x = goal ∨ ∃ e ∈ G, e.nm ∈ ns ∧ ∃ y l', Jn e x y ∧ look L y = some l' ∧ l' < l
section
variable {G : List (Sm Str)} {kn ns : List Str} {goal here : Str} {lh : Nat} {seen : List Str} {L : List (Str × Nat)} {ws : List Str}
theorem Bfs.start (h : goal ∈ kn) : Bfs G kn ns goal [(goal, 0)] [goal] := by
  have hl : look [(goal, 0)] goal = some 0 := by simp [look]
  have ho : ∀ {x l}, look [(goal, 0)] x = some l → x = goal ∧ l = 0 := fun {x l} h => by
    have := look_mem h
    simpa using this
  refine ⟨by simp, by simpa using h, hl, by simp [hl], by simp, ?_, ?_, fun x l h => .inl (ho h).1⟩
  · intro x r _ y lx ly _ hy
    have := (ho hy).2
    omega
  · intro x l hx hn
    exact absurd (ho hx).1 (by simpa using hn)
theorem Bfs.enter (b : Bfs G kn ns goal L (here :: ws)) : ∃ lh, Mid G kn ns goal here lh [] L ws := by
  obtain ⟨lh, hlh⟩ := b.ins here List.mem_cons_self
  obtain ⟨p1, p2⟩ := List.pairwise_cons.mp b.srt
  refine ⟨lh, b.nd, b.sub, b.base, hlh, fun x hx => ?_, p2, fun y ly hy => b.top here ws rfl y lh ly hlh hy, fun x l hx hn hh => b.done x l hx (fun hm => ?_), (fun y hy => by cases hy), b.back⟩
  · obtain ⟨l, hl⟩ := b.ins x (List.mem_cons_of_mem _ hx)
    exact ⟨l, hl, p1 x hx lh l hlh hl⟩
  · rcases List.mem_cons.mp hm with z | z
    · exact hh z
    · exact hn z
theorem Mid.known (m : Mid G kn ns goal here lh seen L ws) {y : Str} {l : Nat} (hy : look L y = some l) : Mid G kn ns goal here lh (seen ++ [y]) L ws :=
  ⟨m.nd, m.sub, m.base, m.at_, m.ins, m.srt, m.top, m.done, (fun z hz => by
      rcases List.mem_append.mp hz with hz | hz
      · exact m.cur z hz
      · obtain rfl := List.mem_singleton.mp hz
        exact ⟨l, hy, m.top _ _ hy⟩), m.back⟩
theorem Mid.more (m : Mid G kn ns goal here lh seen L ws) {e : Sm Str} {y : Str} (he : e ∈ G) (hn : e.nm ∈ ns) (hj : Jn e here y) (hk : y ∈ kn) (hy : look L y = none) : Mid G kn ns goal here lh (seen ++ [y]) (L ++ [(y, lh + 1)]) (ws ++ [y]) := by
  have lk : ∀ x, look (L ++ [(y, lh + 1)]) x = if x = y then some (lh + 1) else look L x := look_snoc hy
  have up : ∀ {x l}, look L x = some l → look (L ++ [(y, lh + 1)]) x = some l := fun {x l} h => by
    rw [lk, if_neg (by intro z; subst z; rw [hy] at h; cases h)]
    exact h
  have self : look (L ++ [(y, lh + 1)]) y = some (lh + 1) := by rw [lk, if_pos rfl]
  have cases_ : ∀ {x l}, look (L ++ [(y, lh + 1)]) x = some l → (x = y ∧ l = lh + 1) ∨ (x ≠ y ∧ look L x = some l) := fun {x l} h => by
    rw [lk] at h
    by_cases c : x = y
    · rw [if_pos c] at h
      exact .inl ⟨c, (Option.some.inj h).symm⟩
    · rw [if_neg c] at h
      exact .inr ⟨c, h⟩
  refine ⟨?_, ?_, up m.base, up m.at_, ?_, ?_, ?_, ?_, ?_, ?_⟩
  · rw [List.map_append]
    exact nd_snoc m.nd (look_none hy)
  · intro q hq
    rcases List.mem_append.mp hq with hq | hq
    · exact m.sub q hq
    · rw [List.mem_singleton.mp hq]
      exact hk
  · intro x hx
    rcases List.mem_append.mp hx with hx | hx
    · obtain ⟨l, h1, h2⟩ := m.ins x hx
      exact ⟨l, up h1, h2⟩
    · obtain rfl := List.mem_singleton.mp hx
      exact ⟨_, self, Nat.le_succ _⟩
  · refine List.pairwise_append.mpr ⟨?_, by simp, ?_⟩
    · refine m.srt.imp_of_mem ?_
      intro a b ha hb h la lb h1 h2
      rcases cases_ h1 with ⟨z, _⟩ | ⟨_, h1⟩
      · obtain ⟨l, hl, _⟩ := m.ins a ha
        subst z
        rw [hy] at hl
        cases hl
      · rcases cases_ h2 with ⟨z, _⟩ | ⟨_, h2⟩
        · obtain ⟨l, hl, _⟩ := m.ins b hb
          subst z
          rw [hy] at hl
          cases hl
        · exact h la lb h1 h2
    · intro a ha b hb la lb h1 h2
      obtain rfl := List.mem_singleton.mp hb
      rw [self] at h2
      cases h2
      rcases cases_ h1 with ⟨_, rfl⟩ | ⟨_, h1⟩
      · exact Nat.le_refl _
      · exact m.top _ _ h1
  · intro x lx hx
    rcases cases_ hx with ⟨_, rfl⟩ | ⟨_, hx⟩
    · exact Nat.le_refl _
    · exact m.top _ _ hx
  · intro x l hx hn' hh f hf hfn z hz
    rw [List.mem_append, not_or] at hn'
    rcases cases_ hx with ⟨c, _⟩ | ⟨c, hx⟩
    · exact absurd (List.mem_singleton.mpr c) hn'.2
    · obtain ⟨l', h1, h2⟩ := m.done x l hx hn'.1 hh f hf hfn z hz
      exact ⟨l', up h1, h2⟩
  · intro z hz
    rcases List.mem_append.mp hz with hz | hz
    · obtain ⟨l', h1, h2⟩ := m.cur z hz
      exact ⟨l', up h1, h2⟩
    · obtain rfl := List.mem_singleton.mp hz
      exact ⟨_, self, Nat.le_refl _⟩
  · intro x l hx
    rcases cases_ hx with ⟨rfl, rfl⟩ | ⟨_, hx⟩
    · exact .inr ⟨e, he, hn, here, lh, hj.symm, up m.at_, Nat.lt_succ_self _⟩
    · rcases m.back x l hx with h | ⟨f, hf, hfn, z, l', h1, h2, h3⟩
      · exact .inl h
      · exact .inr ⟨f, hf, hfn, z, l', h1, up h2, h3⟩
theorem Mid.leave (m : Mid G kn ns goal here lh seen L ws) (all : ∀ e ∈ G, e.nm ∈ ns → ∀ y, Jn e here y → y ∈ seen) : Bfs G kn ns goal L ws := by
  refine ⟨m.nd, m.sub, m.base, fun x hx => ?_, m.srt, ?_, ?_, m.back⟩
  · obtain ⟨l, h, _⟩ := m.ins x hx
    exact ⟨l, h⟩
  · rintro x r rfl y lx ly hx hy
    obtain ⟨l, h1, h2⟩ := m.ins x List.mem_cons_self
    rw [h1] at hx
    cases hx
    have := m.top y ly hy
    omega
  · intro x l hx hn e he hen y hj
    by_cases hh : x = here
    · subst hh
      rw [m.at_] at hx
      cases hx
      exact m.cur y (all e he hen y hj)
    · exact m.done x l hx hn hh e he hen y hj
theorem Bfs.lv (b : Bfs G kn ns goal L []) : Lv G (· ∈ ns) goal (look L) :=
  ⟨b.base, fun e he hn x y l hj hx => b.done x l hx (by simp) e he hn y hj, fun x l hx => by
    rcases b.back x l hx with h | ⟨e, he, hn, y, l', h1, h2, h3⟩
    · exact .inl h
    · exact .inr ⟨e, he, hn, y, l', h1, h2, h3⟩⟩
theorem Mid.few (m : Mid G kn ns goal here lh seen L ws) : L.length ≤ kn.length := by
  have := nodup_sub_len m.nd (B := kn) fun a ha => by
    obtain ⟨q, hq, rfl⟩ := List.mem_map.mp ha
    exact m.sub q hq
  rw [List.length_map] at this
  exact this
end
/-! ### steps -/
theorem StepsOf.skip {G : List (Sm Str)} {ns : List Str} {k : Str} {L : List (Addr × Str × Int × Str)} {i : Nat} {e : Sm Str} (h : StepsOf (G.take i) ns k L) (he : G[i]? = some e) (hno : e.nm ∈ ns → ∀ y, ¬ Jn e k y) : StepsOf (G.take (i + 1)) ns k L := by
  rw [List.take_add_one, he]
  refine ⟨fun q hq => ?_, fun f hf hn y hj => ?_⟩
  · obtain ⟨f, hf, r⟩ := h.is q hq
    exact ⟨f, List.mem_append_left _ hf, r⟩
  · rcases List.mem_append.mp hf with hf | hf
    · exact h.has f hf hn y hj
    · obtain rfl : f = e := by simpa using hf
      exact absurd hj (hno hn y)
theorem StepsOf.next {G : List (Sm Str)} {ns : List Str} {k : Str} {L new : List (Addr × Str × Int × Str)} {i : Nat} {e : Sm Str} (h : StepsOf (G.take i) ns k L) (he : G[i]? = some e) (hn : e.nm ∈ ns)
    (h1 : ∀ q ∈ new, q.2.1 = e.nm ∧ Jn e k q.2.2.2) (h2 : ∀ y, Jn e k y → ∃ q ∈ new, q.2.1 = e.nm ∧ q.2.2.2 = y) : StepsOf (G.take (i + 1)) ns k (L ++ new) := by
  rw [List.take_add_one, he]
  refine ⟨fun q hq => ?_, fun f hf hfn y hj => ?_⟩
  · rcases List.mem_append.mp hq with hq | hq
    · obtain ⟨f, hf, r⟩ := h.is q hq
      exact ⟨f, List.mem_append_left _ hf, r⟩
    · exact ⟨e, List.mem_append_right _ (by simp), (h1 q hq).1.symm, hn, (h1 q hq).2⟩
  · rcases List.mem_append.mp hf with hf | hf
    · obtain ⟨q, hq, r⟩ := h.has f hf hfn y hj
      exact ⟨q, List.mem_append_left _ hq, r⟩
    · obtain rfl : f = e := by simpa using hf
      obtain ⟨q, hq, r⟩ := h2 y hj
      exact ⟨q, List.mem_append_right _ hq, r⟩
end Msr
end
section
/-! steps_from. -/
namespace Msr
open PySem PySem.Spec PyProof.Rows L2 Ms MsLow
section
variable {P : Program} {w : World} {K : PySem.W.Frag} {mg : Str → Option Value} {base : Heap} {C : Addr}
theorem stepsAt_put {H : Hp} {L : List (Addr × Str × Int × Str)} {D : Addr} {xs ys : List V} (h : StepsAt H L) (hD : H D = some (.lst xs)) : StepsAt (upd H D (.lst ys)) L := fun q hq => by
  rw [upd_ne (ne_of (h q hq) hD (by intro z; cases z))]
  exact h q hq
theorem sc_steps : FnScope ["plant", "names", "knot", "found", "name", "tail", "head", "_"] ["plant", "names", "knot"] (defScope sSteps) := ⟨rfl, rfl, rfl, by decide +kernel, rfl, by decide +kernel, by decide +kernel⟩
theorem ok_steps {f p1 g1 : Addr} {fd gd1 : FuncData} (F : Fun K "steps_from" "steps_from" sSteps f fd) (T : Txt K mg C) (R1 : Prp P w K mg base C 1 "streams" (spStreams C) p1 g1 gd1) :
    FnOk P w K mg base CX0 3 f fd ["plant", "names", "knot"] (spSteps K C) := by
  refine F.ok sc_steps (fun vs H Q E h => ?_) (fun cdv A outer s H vs Q E hr h => ?_)
  · obtain ⟨p, l, k, kn, G, ns, rfl, _⟩ := h
    rfl
  · obtain ⟨p, l, k, kn, G, ns, rfl, hp, hn, q⟩ := h
    obtain ⟨dx, kl, sl, L0, h1, _⟩ := hp.at_
    have hlen := hn.len hp.wf
    refine ⟨_, pss_cons (ps_set (i := 3) sc_steps.nd rfl (.inl rfl) (pe_lst pa_nil))
      (pss_cons (ps_for PassesOwn.never rfl (pi_list (pe_prop (pv 0) T.cl R1.pr R1.ok hr R1.bd .nil pass0 (by rfl)))
        (pg_tup (by rfl) (pgs_cons (pg_name (i := 4) sc_steps.nd rfl (.inl rfl)) (pgs_cons (pg_name (i := 5) sc_steps.nd rfl (.inl rfl)) (pgs_cons (pg_name (i := 6) sc_steps.nd rfl (.inl rfl))
          (pgs_cons (pg_name (i := 7) sc_steps.nd rfl (.inl rfl)) (pgs_cons (pg_name (i := 7) sc_steps.nd rfl (.inl rfl)) pgs_nil))))))
        (pss_one (ps_if (PW.pt (pw_and (pt_cmpR op_in_seq (pv 2) (pe_tup (pa_cons (pv 5) (pa_cons (pv 6) pa_nil))) (by rfl)) (pw_and1 (pt_cmpR op_in_seq (pv 4) (pv 1) (by rfl)))))
          (pss_cons (ps_if (pt_cmpR op_eq (pv 6) (pv 2) (nomark _)) (pss_one (ps_expr (pe_bm PySem.F.plainAttrs_list PySem.F.slot_list_append PySem.F.type_list_append mt_append (pv 3) (pa_cons (pe_tup (pa_cons (pv 4) (pa_cons (pe_un un_neg pe_int) (pa_cons (pv 5) pa_nil)))) pa_nil)))) pss_nil)
          (pss_one (ps_if (pt_cmpR op_eq (pv 5) (pv 2) (nomark _)) (pss_one (ps_expr (pe_bm PySem.F.plainAttrs_list PySem.F.slot_list_append PySem.F.type_list_append mt_append (pv 3) (pa_cons (pe_tup (pa_cons (pv 4) (pa_cons pe_int (pa_cons (pv 6) pa_nil)))) pa_nil)))) pss_nil)))
          pss_nil)))
      (pss_one (ps_ret (pv 3)))), ?_⟩
    refine ⟨by show 0 ≤ sizeLine; decide, fun D nD => ?_⟩
    have s0 : Same H (upd H D (.lst [])) := same_upd nD
    generalize hH0 : upd H D (.lst []) = H0 at s0
    have hD0 : H0 D = some (.lst []) := by rw [← hH0, upd_same]
    refine ⟨_, rfl, p, dx, _, rfl, s0 _ _ h1, p, kn, G, rfl, hp.same s0, fun sl1 H1 L nsl s1 hsl hL hG => ?_⟩
    have hGl : L.length ≤ 60 := by
      have := hp.wf.glen
      rw [← hG, List.length_map] at this
      exact this
    have nD1 : sl1 ≠ D := (ne_of_none hD0 nsl).symm
    refine ⟨sl1, rfl, ⟨_, sq hsl⟩, for_list (K := K) (a := sl1) (xs := L.map fun q : Addr × Sm Str => V.ref q.1) (fun i σ H' => Same H H' ∧ H' sl1 = some (.lst (L.map fun q : Addr × Sm Str => V.ref q.1)) ∧ SmsAt H' L ∧
        (∃ v4 v5 v6 v7, σ = [some (.ref p), some (.ref l), some (.str k), some (.ref D), v4, v5, v6, v7]) ∧ ∃ S : List (Addr × Str × Int × Str), H' D = some (.lst (S.map fun q : Addr × Str × Int × Str => V.ref q.1)) ∧ StepsAt H' S ∧ StepsOf (G.take i) ns k S ∧ S.length ≤ 2 * i)
      ⟨s0.trans s1, hsl, hL, ⟨none, none, none, none, rfl⟩, [], s1 _ _ hD0, (fun q hq => by cases hq), ⟨(fun q hq => by cases hq), (fun e he => by simp at he)⟩, Nat.le_refl _⟩ (fun i σ H' _ h => sq h.2.1) ?_ ?_⟩
    · rintro i v σ H2 hv ⟨s2, hsl2, hL2, ⟨v4, v5, v6, v7, rfl⟩, S, hS, hSt, hOf, hlS⟩
      have hil : i < L.length := by
        have := (List.getElem?_eq_some_iff.mp hv).1
        rw [List.length_map] at this
        exact this
      rw [List.getElem?_map] at hv
      obtain ⟨⟨a, e⟩, hx, rfl⟩ := Option.map_eq_some_iff.mp hv
      have he : G[i]? = some e := by rw [← hG, List.getElem?_map, hx]; rfl
      have hm := hL2 _ (List.mem_of_getElem? hx)
      refine ⟨a, _, rfl, st hm, rfl, _, _, rfl, _, _, rfl, _, _, rfl, _, _, rfl, _, _, rfl, rfl, ?_⟩
      -- knot in (tail, head)
      refine ⟨_, rfl, _, rfl, _, rfl, by show 2 ≤ sizeLine; decide, fun t nt => ?_⟩
      have s3 : Same H2 (upd H2 t (.tup [.str e.tl, .str e.hd])) := same_upd nt
      generalize hH3 : upd H2 t (.tup [.str e.tl, .str e.hd]) = H3 at s3
      have ht : H3 t = some (.tup [.str e.tl, .str e.hd]) := by rw [← hH3, upd_same]
      have base3 : Same H H3 ∧ H3 sl1 = some (.lst (L.map fun q : Addr × Sm Str => V.ref q.1)) ∧ SmsAt H3 L := ⟨s2.trans s3, s3 _ _ hsl2, smsAt_same hL2 s3⟩
      have ein : inV (.str k) [V.str e.tl, V.str e.hd] = decide (k ∈ [e.tl, e.hd]) := inV_str k [e.tl, e.hd]
      refine ⟨t, _, rfl, .inr (st ht), rfl, rfl, decide (k ∈ [e.tl, e.hd]), by show V.bl (inV (.str k) [V.str e.tl, V.str e.hd]) = _; rw [ein], ?_⟩
      by_cases c1 : k ∈ [e.tl, e.hd]
      · refine itD c1 ?_
        refine ⟨_, rfl, _, rfl, l, _, rfl, .inl (s3.seq (s2.seq hn.sq)), rfl, flat_strs _, decide (e.nm ∈ ns), by show V.bl (inV (.str e.nm) (ns.map V.str)) = _; rw [inV_str], ?_⟩
        by_cases c2 : e.nm ∈ ns
        · refine itD c2 ?_
          -- the second test, whatever the first one has put
          have second : ∀ (Dn : Ends) (H4 : Hp) (new : List (Addr × Str × Int × Str)), Same H H4 → H4 sl1 = some (.lst (L.map fun q : Addr × Sm Str => V.ref q.1)) → SmsAt H4 L → H4 D = some (.lst ((S ++ new).map fun q : Addr × Str × Int × Str => V.ref q.1)) → StepsAt H4 (S ++ new) →
              new.length ≤ 1 → (∀ q ∈ new, q.2.1 = e.nm ∧ Jn e k q.2.2.2) → (e.hd = k → ∃ q ∈ new, q.2.1 = e.nm ∧ q.2.2.2 = e.tl) →
              (∀ H5 S', Same H H5 → H5 sl1 = some (.lst (L.map fun q : Addr × Sm Str => V.ref q.1)) → SmsAt H5 L → H5 D = some (.lst (S'.map fun q : Addr × Str × Int × Str => V.ref q.1)) → StepsAt H5 S' → StepsOf (G.take (i + 1)) ns k S' → S'.length ≤ 2 * (i + 1) →
                Dn.nx [some (.ref p), some (.ref l), some (.str k), some (.ref D), some (.str e.nm), some (.str e.tl), some (.str e.hd), some (.int e.hi)] H5) →
              tIfS (tTest (tOp rEq (tVar 5) (tVar 2))) (tDrop (tBM K "list" rAppend (tVar 3) (tCons (tTup (tCons (tVar 4) (tCons (tC (.int 1)) (tCons (tVar 6) tNil)))) tNil))) tNext Dn
                [some (.ref p), some (.ref l), some (.str k), some (.ref D), some (.str e.nm), some (.str e.tl), some (.str e.hd), some (.int e.hi)] H4 := by
            intro Dn H4 new b1 b2 b3 hD4 hS4 hl4 hj4 hh4 fin
            refine ⟨_, rfl, _, rfl, rfl, _, rfl, ite2 (fun hc => ?_) (fun hc => ?_)⟩
            · have ek : e.tl = k := by simpa using hc
              refine ⟨.ref D, rfl, .inl ⟨rfl, _, sq hD4⟩, _, rfl, _, rfl, by show 3 ≤ sizeLine; decide, fun t2 nt2 => ?_⟩
              have s5 : Same H4 (upd H4 t2 (.tup [.str e.nm, .int 1, .str e.hd])) := same_upd nt2
              generalize hH5 : upd H4 t2 (.tup [.str e.nm, .int 1, .str e.hd]) = H5 at s5
              have ht5 : H5 t2 = some (.tup [.str e.nm, .int 1, .str e.hd]) := by rw [← hH5, upd_same]
              have hD5 := s5 _ _ hD4
              refine ⟨D, _, .ref t2, rfl, rfl, hD5, small1000 (by rw [List.length_map, List.length_append]; omega), ?_⟩
              have hd6 : (upd H5 D (.lst (((S ++ new).map fun q : Addr × Str × Int × Str => V.ref q.1) ++ [.ref t2]))) D = some (.lst ((S ++ (new ++ [(t2, e.nm, 1, e.hd)])).map fun q : Addr × Str × Int × Str => V.ref q.1)) := by
                rw [upd_same]
                simp only [List.map_append, List.append_assoc, List.map_cons, List.map_nil]
              have st6 : StepsAt (upd H5 D (.lst (((S ++ new).map fun q : Addr × Str × Int × Str => V.ref q.1) ++ [.ref t2]))) (S ++ (new ++ [(t2, e.nm, 1, e.hd)])) := by
                refine stepsAt_put (fun q hq => ?_) hD5
                rw [← List.append_assoc] at hq
                rcases List.mem_append.mp hq with hq | hq
                · exact s5 _ _ (hS4 q hq)
                · rw [List.mem_singleton.mp hq]
                  exact ht5
              refine fin _ _ (same_at (b1.trans s5) nD) (by rw [upd_ne nD1]; exact s5 _ _ b2) (fun q hq => ?_) hd6 st6 (hOf.next he c2 ?_ ?_) (by simp only [List.length_append, List.length_singleton]; omega)
              · rw [upd_ne (ne_of (s5 _ _ (b3 q hq)) hD5 (by intro z; cases z))]
                exact s5 _ _ (b3 q hq)
              · intro q hq
                rcases List.mem_append.mp hq with hq | hq
                · exact hj4 q hq
                · rw [List.mem_singleton.mp hq]
                  exact ⟨rfl, .inl ⟨ek, rfl⟩⟩
              · rintro y (⟨_, rfl⟩ | ⟨z, rfl⟩)
                · exact ⟨_, List.mem_append_right _ (List.mem_singleton.mpr rfl), rfl, rfl⟩
                · obtain ⟨q, hq, r⟩ := hh4 z
                  exact ⟨q, List.mem_append_left _ hq, r⟩
            · have ek : ¬ e.tl = k := by simpa using hc
              refine fin H4 (S ++ new) b1 b2 b3 hD4 hS4 (hOf.next he c2 hj4 ?_) (by rw [List.length_append]; omega)
              rintro y (⟨z, _⟩ | ⟨z, rfl⟩)
              · exact absurd z ek
              · exact hh4 z
          refine ⟨_, rfl, _, rfl, rfl, _, rfl, ite2 (fun hc => ?_) (fun hc => ?_)⟩
          · have ek : e.hd = k := by simpa using hc
            have hS3 := s3 _ _ hS
            refine ⟨.ref D, rfl, .inl ⟨rfl, _, sq hS3⟩, _, rfl, 1, rfl, _, rfl, by show 3 ≤ sizeLine; decide, fun t2 nt2 => ?_⟩
            have s5 : Same H3 (upd H3 t2 (.tup [.str e.nm, .int (-1), .str e.tl])) := same_upd nt2
            generalize hH5 : upd H3 t2 (.tup [.str e.nm, .int (-1), .str e.tl]) = H5 at s5
            have ht5 : H5 t2 = some (.tup [.str e.nm, .int (-1), .str e.tl]) := by rw [← hH5, upd_same]
            have hD5 := s5 _ _ hS3
            refine ⟨D, _, .ref t2, rfl, rfl, hD5, small1000 (by rw [List.length_map]; omega), ?_⟩
            refine second _ _ [(t2, e.nm, -1, e.tl)] (same_at (base3.1.trans s5) nD) (by rw [upd_ne nD1]; exact s5 _ _ base3.2.1) (fun q hq => ?_) ?_ (stepsAt_put (fun q hq => ?_) hD5) (Nat.le_refl _) ?_ (fun _ => ⟨_, List.mem_singleton.mpr rfl, rfl, rfl⟩) ?_
            · rw [upd_ne (ne_of (s5 _ _ (base3.2.2 q hq)) hD5 (by intro z; cases z))]
              exact s5 _ _ (base3.2.2 q hq)
            · rw [upd_same, List.map_append]
              rfl
            · rcases List.mem_append.mp hq with hq | hq
              · exact s5 _ _ (s3 _ _ (hSt q hq))
              · rw [List.mem_singleton.mp hq]
                exact ht5
            · intro q hq
              rw [List.mem_singleton.mp hq]
              exact ⟨rfl, .inr ⟨ek, rfl⟩⟩
            · intro H6 S' a1 a2 a3 a4 a5 a6 a7
              exact ⟨a1, a2, a3, ⟨_, _, _, _, rfl⟩, S', a4, a5, a6, a7⟩
          · have ek : ¬ e.hd = k := by simpa using hc
            refine second _ H3 [] base3.1 base3.2.1 base3.2.2 (by rw [List.append_nil]; exact s3 _ _ hS) (by rw [List.append_nil]; exact hSt.same s3) (Nat.zero_le _) (fun q hq => by cases hq) (fun z => absurd z ek) ?_
            intro H6 S' a1 a2 a3 a4 a5 a6 a7
            exact ⟨a1, a2, a3, ⟨_, _, _, _, rfl⟩, S', a4, a5, a6, a7⟩
        · refine itN c2 ?_
          exact ⟨base3.1, base3.2.1, base3.2.2, ⟨_, _, _, _, rfl⟩, S, s3 _ _ hS, hSt.same s3, hOf.skip he fun z => absurd z c2, by omega⟩
      · refine itN c1 ?_
        refine ⟨base3.1, base3.2.1, base3.2.2, ⟨_, _, _, _, rfl⟩, S, s3 _ _ hS, hSt.same s3, hOf.skip he fun _ y hj => ?_, by omega⟩
        rcases hj with ⟨z, _⟩ | ⟨z, _⟩
        · exact c1 (by rw [← z]; simp)
        · exact c1 (by rw [← z]; simp)
    · rintro σ H2 ⟨s2, _, _, ⟨v4, v5, v6, v7, rfl⟩, S, hS, hSt, hOf, hlS⟩
      rw [List.length_map, show L.length = G.length by rw [← hG, List.length_map], List.take_length] at hOf
      rw [List.length_map] at hlS
      exact ⟨_, rfl, q D H2 S nD s2 hS hSt hOf (by omega)⟩
end
end Msr
end
section
/-! levels_from. -/
namespace Msr
open PySem PySem.Spec PyProof.Rows L2 Ms MsLow
section
variable {P : Program} {w : World} {K : PySem.W.Frag} {mg : Str → Option Value} {base : Heap} {C : Addr}
theorem cut1 (xs : List V) : cutV xs (some 1) none = xs.drop 1 := by
  unfold cutV
  rw [show HT.sIx xs.length 0 (some 1) = min 1 xs.length from HT.sIx_nat xs.length 0 1, HT.sIx_none]
  cases xs with
  | nil => rfl
  | cons x r =>
    rw [show min 1 (x :: r).length = 1 by rw [List.length_cons]; omega]
    show (List.take ((x :: r).length - 1) r) = r
    rw [List.length_cons, Nat.add_sub_cancel]
    exact List.take_length
theorem steps_getElem {L : List (Addr × Str × Int × Str)} {i : Nat} {v : V} (h : (L.map fun q : Addr × Str × Int × Str => V.ref q.1)[i]? = some v) : ∃ q, L[i]? = some q ∧ v = .ref q.1 := by
  rw [List.getElem?_map] at h
  obtain ⟨q, hq, rfl⟩ := Option.map_eq_some_iff.mp h
  exact ⟨q, hq, rfl⟩
theorem lv_get {L : List (Str × Nat)} {H : Hp} {d : Addr} {x : Str} {n : Nat} (hd : H d = some (.dK (lvKV L))) (hx : look L x = some n) : DGet H d (.str x) (some (.int (n : Int))) := by
  have h := DGet.k (k := (Sum.inr x : Key)) hd
  rw [lv_at, hx] at h
  exact h
theorem sc_levels : FnScope ["plant", "names", "knot", "levels", "waiting", "here", "_", "there"] ["plant", "names", "knot"] (defScope sLevels) := ⟨rfl, rfl, rfl, by decide +kernel, rfl, by decide +kernel, by decide +kernel⟩
theorem ok_levels {f f1 : Addr} {fd fd1 : FuncData} (F : Fun K "levels_from" "levels_from" sLevels f fd) (T : Txt K mg C) (C1 : Cal P w K mg base 3 "steps_from" ["plant", "names", "knot"] (spSteps K C) f1 fd1) :
    FnOk P w K mg base CX0 4 f fd ["plant", "names", "knot"] (spLevels K C) := by
  refine F.ok sc_levels (fun vs H Q E h => ?_) (fun cdv A outer s H vs Q E hr h => ?_)
  · obtain ⟨p, l, k, kn, G, ns, rfl, _⟩ := h
    rfl
  · obtain ⟨p, l, k, kn, G, ns, rfl, hp, hn, hk, q⟩ := h
    have hu := hu_of hr
    have wf := hp.wf
    refine ⟨_, pss_cons (ps_set (i := 3) sc_levels.nd rfl (.inl rfl) (pe_disp (pps_cons (pv 2) pe_int pps_nil) (by rfl) (by rfl) (fun z => by cases z) (by decide)))
      (pss_cons (ps_set (i := 4) sc_levels.nd rfl (.inl rfl) (pe_lst (pa_cons (pv 2) pa_nil)))
      (pss_cons (ps_while PassesOwn.never (pt_truth (pv 4) (by intro _; rfl))
        (pss_cons (ps_par (i := 5) (j := 4) (by rfl) sc_levels.nd rfl rfl (by decide) rfl rfl (pa_cons (pe_ix ix_list (pv 4) pe_int (fun _ _ => rfl)) (pa_cons (pe_slice sl_list (pv 4) (po_some pe_int) po_none) pa_nil)) (by rfl))
        (pss_one (ps_for PassesOwn.never rfl (pi_list (pe_call C1.ok hr rfl C1.mg_ C1.kp C1.bd .nil pass0 (pa_cons (pv 0) (pa_cons (pv 1) (pa_cons (pv 5) pa_nil)))))
            (pg_tup (by rfl) (pgs_cons (pg_name (i := 6) sc_levels.nd rfl (.inl rfl)) (pgs_cons (pg_name (i := 6) sc_levels.nd rfl (.inl rfl)) (pgs_cons (pg_name (i := 7) sc_levels.nd rfl (.inl rfl)) pgs_nil))))
          (pss_one (ps_if (pt_cmp (pc_dnotin hu (pv 7) (pv 3)))
            (pss_cons (ps_dput hu (pv 3) (pv 7) (pe_op op_add (pe_dget hu (pv 3) (pv 5) (fun _ _ => rfl)) pe_int) rfl)
            (pss_one (ps_expr (pe_bm PySem.F.plainAttrs_list PySem.F.slot_list_append PySem.F.type_list_append mt_append (pv 4) (pa_cons (pv 7) pa_nil)))))
            pss_nil))))))
      (pss_one (ps_ret (pv 3))))), ?_⟩
    -- levels = {knot: 0}; waiting = [knot]
    intro d nd
    refine ⟨_, rfl, upd_same, [(Sum.inr k, .int 0)], rfl, by show 1 ≤ 15; decide, ?_⟩
    rw [upd_upd]
    have s0 : Same H (upd H d (.dK (mergeK [] [(Sum.inr k, .int 0)]))) := same_upd nd
    generalize hH0 : upd H d (.dK (mergeK [] [(Sum.inr k, .int 0)])) = H0 at s0
    have hd0 : H0 d = some (.dK (lvKV [(k, 0)])) := by rw [← hH0, upd_same]; rfl
    refine ⟨_, rfl, by show 1 ≤ sizeLine; decide, fun w0 nw0 => ?_⟩
    have s1 : Same H0 (upd H0 w0 (.lst [.str k])) := same_upd nw0
    generalize hH1 : upd H0 w0 (.lst [.str k]) = H1 at s1
    have hw1 : H1 w0 = some (.lst ([k].map V.str)) := by rw [← hH1, upd_same]; rfl
    have hwn : H w0 = none := s0.free nw0
    -- while waiting
    refine ⟨fun m σ H' => ∃ (L : List (Str × Nat)) (ws : List Str) (wl : Addr) (v5 v6 v7 : Option V), m = 2 * (24 - L.length) + ws.length ∧ m ≤ 60 ∧ σ = [some (.ref p), some (.ref l), some (.str k), some (.ref d), some (.ref wl), v5, v6, v7] ∧ Same H H' ∧ H wl = none ∧
        H' d = some (.dK (lvKV L)) ∧ H' wl = some (.lst (ws.map V.str)) ∧ Bfs G kn ns k L ws,
      ⟨_, [(k, 0)], [k], w0, none, none, none, rfl, by simp, rfl, s0.trans s1, hwn, s1 _ _ hd0, hw1, Bfs.start hk⟩, ?_⟩
    rintro m σ H2 ⟨L, ws, wl, v5, v6, v7, rfl, hm60, rfl, s2, nwl, hd2, hw2, b⟩
    refine ⟨_, rfl, !(ws.map V.str).isEmpty, .inl ⟨_, sq hw2, rfl⟩, ?_⟩
    cases ws with
    | nil =>
      refine iteF ⟨_, rfl, q d H2 L s2 hd2 b.lv⟩
    | cons here rest =>
      refine iteT ?_
      obtain ⟨lh, mid0⟩ := b.enter
      have hhk : here ∈ kn := mid0.sub _ (look_mem mid0.at_)
      have fewL := mid0.few
      have hkn := wf.klen
      refine ⟨fun σ' H' => ∃ (L' : List (Str × Nat)) (ws' : List Str) (wl : Addr) (v5 v6 v7 : Option V), 2 * (24 - L'.length) + ws'.length < 2 * (24 - L.length) + (here :: rest).length ∧ σ' = [some (.ref p), some (.ref l), some (.str k), some (.ref d), some (.ref wl), v5, v6, v7] ∧ Same H H' ∧ H wl = none ∧
        H' d = some (.dK (lvKV L')) ∧ H' wl = some (.lst (ws'.map V.str)) ∧ Bfs G kn ns k L' ws', fun σ' H' h => ?_, ?_⟩
      · obtain ⟨L', ws', wl, v5, v6, v7, h1, h2⟩ := h
        exact ⟨_, h1, L', ws', wl, v5, v6, v7, rfl, by omega, h2⟩
      -- here, waiting = waiting[0], waiting[1:]
      refine ⟨_, rfl, wl, _, 0, V.str here, rfl, rfl, sq hw2, at_of (j := 0) rfl rfl, _, rfl, 1, rfl, wl, _, rfl, sq hw2, fun w3 nw3 => ⟨_, _, rfl, ?_⟩⟩
      rw [cut1]
      have s3 : Same H2 (upd H2 w3 (.lst (((here :: rest).map V.str).drop 1))) := same_upd nw3
      generalize hH3 : upd H2 w3 (.lst (((here :: rest).map V.str).drop 1)) = H3 at s3
      have hw3 : H3 w3 = some (.lst (rest.map V.str)) := by rw [← hH3, upd_same]; rfl
      have hd3 := s3 _ _ hd2
      have s23 := s2.trans s3
      -- the steps
      refine ⟨_, rfl, _, rfl, _, rfl, p, l, here, kn, G, ns, rfl, hp.same s23, hn.same s23, fun r H4 S nr s4 hr4 hS4 hOf hlS => ?_⟩
      have nwr : r ≠ w3 := (ne_of_none hw3 nr).symm
      have hdn : H d = none := nd
      have hwn3 : H w3 = none := s2.free nw3
      refine ⟨r, rfl, ⟨_, sq hr4⟩, for_list (K := K) (a := r) (xs := S.map fun q : Addr × Str × Int × Str => V.ref q.1) (fun i σ H' => ∃ (L' : List (Str × Nat)) (ws' : List Str) (v6 v7 : Option V), 2 * (24 - L'.length) + ws'.length < 2 * (24 - L.length) + (here :: rest).length ∧
          σ = [some (.ref p), some (.ref l), some (.str k), some (.ref d), some (.ref w3), some (.str here), v6, v7] ∧ Same H H' ∧ H' r = some (.lst (S.map fun q : Addr × Str × Int × Str => V.ref q.1)) ∧ StepsAt H' S ∧
          H' d = some (.dK (lvKV L')) ∧ H' w3 = some (.lst (ws'.map V.str)) ∧ Mid G kn ns k here lh ((S.take i).map (·.2.2.2)) L' ws')
        ⟨L, rest, _, _, by rw [List.length_cons]; omega, rfl, s23.trans s4, hr4, hS4, s4 _ _ hd3, s4 _ _ hw3, mid0⟩ (fun i σ H' _ h => by obtain ⟨_, _, _, _, _, _, _, h, _⟩ := h; exact sq h) ?_ ?_⟩
      · rintro i v σ H5 hv ⟨L', ws', v6, v7, hm, rfl, s5, hr5, hS5, hd5, hw5, mid⟩
        obtain ⟨⟨a, nm, wy, y⟩, hx, rfl⟩ := steps_getElem hv
        have hmS := List.mem_of_getElem? hx
        have hta := hS5 _ hmS
        obtain ⟨e, he, h1, h2, hj⟩ := hOf.is _ hmS
        have hyk : y ∈ kn := by
          obtain ⟨_, g1, g2, _⟩ := wf.gok e he
          rcases hj with ⟨_, z⟩ | ⟨_, z⟩
          · have z : e.hd = y := z
            rw [← z]
            exact g2
          · have z : e.tl = y := z
            rw [← z]
            exact g1
        have hseen : (S.take (i + 1)).map (·.2.2.2) = (S.take i).map (·.2.2.2) ++ [y] := by
          rw [List.take_add_one, hx, List.map_append]
          rfl
        refine ⟨a, _, rfl, st hta, rfl, _, _, rfl, _, _, rfl, _, _, rfl, rfl, ?_⟩
        -- there not in levels
        refine ⟨_, rfl, _, rfl, d, _, rfl, DGet.k (k := (Sum.inr y : Key)) hd5, _, rfl, ?_⟩
        rw [lv_at]
        cases hy : look L' y with
        | some n =>
          refine iteF ?_
          refine ⟨L', ws', _, _, hm, rfl, s5, hr5, hS5, hd5, hw5, ?_⟩
          rw [hseen]
          exact mid.known hy
        | none =>
          refine iteT ?_
          have mid' := mid.more he h2 hj hyk hy
          have fewL' := mid'.few
          rw [List.length_append, List.length_singleton] at fewL'
          -- levels[there] = levels[here] + 1
          refine ⟨_, rfl, _, rfl, d, _, rfl, lv_get hd5 mid.at_, _, _, rfl, rfl, _, rfl, _, rfl, d, _, rfl, DPut.k (k := (Sum.inr y : Key)) hd5 (by unfold lvKV; rw [List.length_map]; exact small1000 (by omega)), ?_⟩
          have ndw : d ≠ w3 := ne_of hd5 hw5 (by intro z; cases z)
          have ndr : r ≠ d := ne_of hr5 hd5 (by intro z; cases z)
          have eput : putK (lvKV L') (Sum.inr y : Key) (V.int ((lh : Int) + 1)) = lvKV (L' ++ [(y, lh + 1)]) := lv_put (m := lh + 1) hy
          have hw6 : (upd H5 d (.dK (putK (lvKV L') (Sum.inr y : Key) (V.int ((lh : Int) + 1))))) w3 = some (.lst (ws'.map V.str)) := by rw [upd_ne ndw.symm]; exact hw5
          refine ⟨_, rfl, .inl ⟨rfl, _, sq hw6⟩, _, rfl, w3, _, _, rfl, rfl, hw6, small1000 (by rw [List.length_map]; omega), ?_⟩
          have gS : ∀ q ∈ S, q.1 ≠ d ∧ q.1 ≠ w3 := fun q hq => ⟨ne_of (hS5 q hq) hd5 (by intro z; cases z), ne_of (hS5 q hq) hw5 (by intro z; cases z)⟩
          refine ⟨L' ++ [(y, lh + 1)], ws' ++ [y], _, _, ?_, rfl, same_at (same_at s5 hdn) hwn3, ?_, fun q hq => ?_, ?_, ?_, ?_⟩
          · rw [List.length_append, List.length_append, List.length_singleton, List.length_singleton]
            omega
          · rw [upd_ne nwr, upd_ne ndr]
            exact hr5
          · rw [upd_ne (gS q hq).2, upd_ne (gS q hq).1]
            exact hS5 q hq
          · rw [upd_ne ndw, upd_same, eput]
          · rw [upd_same, List.map_append]
            rfl
          · rw [hseen]
            exact mid'
      · rintro σ H5 ⟨L', ws', v6, v7, hm, rfl, s5, hr5, hS5, hd5, hw5, mid⟩
        rw [List.length_map, List.take_length] at mid
        refine ⟨L', ws', w3, _, _, _, hm, rfl, s5, hwn3, hd5, hw5, mid.leave fun e he hen y hj => ?_⟩
        obtain ⟨q, hq, _, rfl⟩ := hOf.has e he hen y hj
        exact List.mem_map.mpr ⟨q, hq, rfl⟩
end
end Msr
end
section
/-! ring_through. -/
namespace Msr
open PySem PySem.Spec PyProof.Rows L2 Ms MsLow
section
variable {P : Program} {w : World} {K : PySem.W.Frag} {mg : Str → Option Value} {base : Heap} {C : Addr}
theorem take_filter_snoc {α : Type} {L : List α} {i : Nat} {x : α} (h : L[i]? = some x) (f : α → Bool) : (L.take (i + 1)).filter f = (L.take i).filter f ++ (if f x = true then [x] else []) := by
  rw [List.take_add_one, h, List.filter_append]
  congr 1
  by_cases c : f x = true
  · rw [if_pos c]
    simp [c]
  · rw [if_neg c]
    simp [c]
theorem ring_few {kn : List Str} {G : List (Sm Str)} {ns : List Str} {e : Sm Str} {rest : List Str} (wf : Wf kn G) (r : RingOf G (· ∈ ns) e rest) : rest.length ≤ 60 := by
  have h := nodup_sub_len r.nd (B := nms G) fun n hn => by
    obtain ⟨f, hf, rfl⟩ := r.wk.named n hn
    exact List.mem_map.mpr ⟨f, hf, rfl⟩
  have g := wf.glen
  unfold nms at h
  rw [List.length_map] at h
  omega
theorem cut_two (x y z : V) : cutV [x, y, z] none (some 2) = [x, y] := rfl
theorem sc_ring : FnScope ["plant", "names", "name", "goal", "here", "others", "levels", "ring", "near", "other", "step"] ["plant", "names", "name"] (defScope sRing) := ⟨rfl, rfl, rfl, by decide +kernel, rfl, by decide +kernel, by decide +kernel⟩
theorem ok_ring {f f1 f2 f3 f4 : Addr} {fd fd1 fd2 fd3 fd4 : FuncData} (F : Fun K "ring_through" "ring_through" sRing f fd) (T : Txt K mg C) (C1 : Cal P w K mg base 2 "check_names" ["plant", "names"] (spCheck K C) f1 fd1)
    (C2 : Cal P w K mg base 2 "ends_of" ["plant", "name"] (spEnds C) f2 fd2) (C3 : Cal P w K mg base 4 "levels_from" ["plant", "names", "knot"] (spLevels K C) f3 fd3) (C4 : Cal P w K mg base 3 "steps_from" ["plant", "names", "knot"] (spSteps K C) f4 fd4) :
    FnOk P w K mg base CX0 5 f fd ["plant", "names", "name"] (spRing K C) := by
  refine F.ok sc_ring (fun vs H Q E h => ?_) (fun cdv A outer s H vs Q E hr h => ?_)
  · obtain ⟨p, l, e, kn, G, ns, rfl, _⟩ := h
    rfl
  · obtain ⟨p, l, e, kn, G, ns, rfl, hp, hn, he, q1, q2⟩ := h
    have hu := hu_of hr
    have wf := hp.wf
    have uq := wf.uq
    have hr2 : Room 2 _ := hr.mono (by decide)
    have hr3 : Room 3 _ := hr.mono (by decide)
    have hlen := hn.len wf
    refine ⟨_, pss_cons (ps_expr (pe_call C1.ok hr2 rfl C1.mg_ C1.kp C1.bd .nil pass0 (pa_cons (pv 0) (pa_cons (pv 1) pa_nil))))
      (pss_cons (ps_asg (pe_call C2.ok hr2 rfl C2.mg_ C2.kp C2.bd .nil pass0 (pa_cons (pv 0) (pa_cons (pv 2) pa_nil))) (pg_tup (by rfl) (pgs_cons (pg_name (i := 3) sc_ring.nd rfl (.inl rfl)) (pgs_cons (pg_name (i := 4) sc_ring.nd rfl (.inr rfl)) pgs_nil))))
      (pss_cons (ps_setLc (i := 5) (own := [("other", 9)]) (g := gName 9) (by rfl) sc_ring.nd rfl rfl (sw_true rfl rfl rfl (by decide +kernel)) (pi_list (pv 1))
        (blkOk_by (own := [("other", 9)]) (N := ["plant", "names", "name", "goal", "here", "others", "levels", "ring", "near", "other", "step"]) (sc := defScope sRing) (by decide +kernel))
        (fun _ _ _ _ _ => pg_name (i := 9) sc_ring.nd rfl (Or.inl rfl)) (fun _ _ _ _ _ => pts_one (pt_cmpR op_ne (pv 9) (pv 2) (nomark _))) (fun _ _ _ _ _ => pv 9))
      (pss_cons (ps_set (i := 6) sc_ring.nd rfl (.inr rfl) (pe_call C3.ok hr rfl C3.mg_ C3.kp C3.bd .nil pass0 (pa_cons (pv 0) (pa_cons (pv 5) (pa_cons (pv 3) pa_nil)))))
      (pss_cons (ps_if (pt_cmp (pc_dnotin hu (pv 4) (pv 6))) (pss_one (ps_ret pe_non)) pss_nil)
      (pss_cons (ps_set (i := 7) sc_ring.nd rfl (.inl rfl) (pe_lst (pa_cons (pe_tup (pa_cons (pv 2) (pa_cons pe_int pa_nil))) pa_nil)))
      (pss_cons (ps_while PassesOwn.never (pt_cmpR op_ne (pv 4) (pv 3) (nomark _))
        (pss_cons (ps_setLc (i := 8) (own := [("step", 10)]) (g := gName 10) (by rfl) sc_ring.nd rfl rfl (sw_true rfl rfl rfl (by decide +kernel)) (pi_list (pe_call C4.ok hr3 rfl C4.mg_ C4.kp C4.bd .nil pass0 (pa_cons (pv 0) (pa_cons (pv 5) (pa_cons (pv 4) pa_nil)))))
          (blkOk_by (own := [("step", 10)]) (N := ["plant", "names", "name", "goal", "here", "others", "levels", "ring", "near", "other", "step"]) (sc := defScope sRing) (by decide +kernel))
          (fun _ _ _ _ _ => pg_name (i := 10) sc_ring.nd rfl (Or.inl rfl))
          (fun _ _ _ _ _ => pts_one (pt_cmpR op_lt (pe_dget hu (pv 6) (pe_ix (r := rIxT K) ix_tup (pv 10) pe_int (fun _ _ => rfl)) (fun _ _ => rfl)) (pe_dget hu (pv 6) (pv 4) (fun _ _ => rfl)) (nomark _))) (fun _ _ _ _ _ => pv 10))
        (pss_cons (ps_expr (pe_bm PySem.F.plainAttrs_list PySem.F.slot_list_append PySem.F.type_list_append mt_append (pv 7) (pa_cons (pe_slice sl_tup (pe_ix ix_list (pv 8) pe_int (fun _ _ => rfl)) po_none (po_some pe_int)) pa_nil)))
        (pss_one (ps_set (i := 4) sc_ring.nd rfl (.inr rfl) (pe_ix ix_tup (pe_ix ix_list (pv 8) pe_int (fun _ _ => rfl)) pe_int (fun _ _ => rfl)))))))
      (pss_one (ps_ret (pv 7))))))))), ?_⟩
    -- check_names, ends_of
    refine ⟨_, rfl, _, rfl, p, l, kn, G, ns, rfl, hp, hn, fun H1 s1 => ?_⟩
    refine ⟨_, rfl, _, rfl, p, kn, G, e, rfl, hp.same s1, he, fun t H2 s2 ht => ?_⟩
    refine ⟨t, _, rfl, st ht, rfl, _, _, rfl, _, _, rfl, rfl, ?_⟩
    have s12 := s1.trans s2
    -- others
    refine ⟨_, rfl, l, rfl, ⟨_, s12.seq hn.sq⟩, fun ol nol => ?_⟩
    refine lc_gen (walk_list (xs := ns.map V.str)) nol (by rw [List.length_map]; omega) (fun H' s' => s'.seq (s12.seq hn.sq)) (fun i acc _ => acc = ((ns.take i).filter fun n => !decide (n = e.nm)).map V.str) rfl (fun _ _ _ _ _ h => h)
      (fun i acc _ h => by rw [h, List.length_map]; exact Nat.le_trans (List.length_filter_le _ _) (by rw [List.length_take]; omega)) ?_ ?_
    · rintro i v H3 H4 acc hi s3 ha rfl ⟨rfl, hv⟩ N kT kF
      obtain ⟨x, hx, rfl⟩ := strs_getElem hv
      refine ⟨rfl, _, rfl, _, rfl, rfl, _, rfl, ?_⟩
      have ex := take_filter_snoc hx (fun n => !decide (n = e.nm))
      by_cases c : x = e.nm
      · refine itD' (by rw [c]) (kF _ (Same.refl _) ?_)
        rw [ex, if_neg (by simp [c]), List.append_nil]
      · refine itN' (by simpa using c) ⟨_, rfl, kT _ _ (Same.refl _) ?_⟩
        rw [ex, if_pos (by simp [c]), List.map_append]
        rfl
    rintro H3 acc s3 ha3 rfl
    rw [List.length_map, List.take_length] at ha3
    have s13 := s12.trans s3
    generalize ho : (ns.filter fun n => !decide (n = e.nm)) = os at ha3
    have hos : ∀ n, n ∈ os ↔ n ∈ ns ∧ n ≠ e.nm := fun n => by rw [← ho, List.mem_filter]; simp
    have hon : NamesAt K H3 ol G os := ⟨sq ha3, by rw [← ho]; exact hn.nd.sublist List.filter_sublist, fun n h => hn.sub n ((hos n).mp h).1⟩
    have hpred : (fun n => n ∈ os) = (fun n => n ∈ ns ∧ n ≠ e.nm) := funext fun n => propext (hos n)
    obtain ⟨_, e1, e2, _⟩ := wf.gok e he
    -- levels
    refine ⟨_, rfl, _, rfl, _, rfl, p, ol, e.tl, kn, G, os, rfl, hp.same s13, hon, e1, fun d H4 L s4 hd4 lv => ?_⟩
    have lv' : Lv G (fun n => n ∈ ns ∧ n ≠ e.nm) e.tl (look L) := by rw [← hpred]; exact lv
    have s14 := s13.trans s4
    have hon4 := hon.same s4
    -- if here not in levels
    refine ⟨_, rfl, _, rfl, d, _, rfl, DGet.k (k := (Sum.inr e.hd : Key)) hd4, _, rfl, ?_⟩
    rw [lv_at]
    cases hh : look L e.hd with
    | none =>
      refine iteT ?_
      refine q1 H4 s14 fun r => ?_
      obtain ⟨nsw, wk⟩ := r
      obtain ⟨l', h1, _⟩ := lv'.le wk.back lv'.base
      rw [hh] at h1
      cases h1
    | some lh =>
      refine iteF ?_
      -- ring = [(name, 1)]
      refine ⟨_, rfl, by show 2 ≤ sizeLine; decide, fun t5 nt5 => ⟨by show 1 ≤ sizeLine; decide, fun rl nrl => ?_⟩⟩
      have s5 : Same H4 (upd H4 t5 (.tup [.str e.nm, .int 1])) := same_upd nt5
      generalize hH5 : upd H4 t5 (.tup [.str e.nm, .int 1]) = H5 at s5 nrl
      have ht5 : H5 t5 = some (.tup [.str e.nm, .int 1]) := by rw [← hH5, upd_same]
      have s6 : Same H5 (upd H5 rl (.lst [.ref t5])) := same_upd nrl
      generalize hH6 : upd H5 rl (.lst [.ref t5]) = H6 at s6
      have hr6 : H6 rl = some (.lst ([(t5, e.nm, (1 : Int))].map fun q : Addr × Str × Int => V.ref q.1)) := by rw [← hH6, upd_same]; rfl
      have nrl4 : H4 rl = none := s5.free nrl
      -- the heap ahead of the ring is H4
      refine ⟨fun m σ H' => ∃ (cur : Str) (R : List (Addr × Str × Int)) (rest : List Str) (v8 : Option V), look L cur = some m ∧
          σ = [some (.ref p), some (.ref l), some (.str e.nm), some (.str e.tl), some (.str cur), some (.ref ol), some (.ref d), some (.ref rl), v8, none, none] ∧ Same H4 H' ∧
          H' rl = some (.lst (R.map fun q : Addr × Str × Int => V.ref q.1)) ∧ RingAt H' R ∧ rnm R = e.nm :: rest ∧ Dn G (fun n => n ∈ ns ∧ n ≠ e.nm) (look L) rest e.hd cur,
        ⟨lh, e.hd, [(t5, e.nm, 1)], [], none, hh, rfl, s5.trans s6, hr6, (fun q hq => by rw [List.mem_singleton.mp hq]; exact s6 _ _ ht5), rfl, .nil _⟩, ?_⟩
      rintro m σ H7 ⟨cur, R, rest, v8, hm, rfl, s7, hr7, hR7, hrn, dn⟩
      have restle : rest.length ≤ 60 := by
        have h := nodup_sub_len (dn.nodup uq) (B := nms G) fun n hn => by
          obtain ⟨f, hf, rfl⟩ := dn.wk.named n hn
          exact List.mem_map.mpr ⟨f, hf, rfl⟩
        have g := wf.glen
        unfold nms at h
        rw [List.length_map] at h
        omega
      refine ⟨_, rfl, _, rfl, rfl, _, rfl, ?_⟩
      by_cases c : cur = e.tl
      · refine itD' (by rw [c]) ?_
        rw [c] at dn
        have ro := RingOf.of uq lv' dn
        exact ⟨_, rfl, q2 rl H7 R rest (s14.trans s7) hr7 hR7 hrn (ring_few wf ro) ro⟩
      · refine itN' (by simpa using c) ?_
        refine ⟨fun σ' H' => ∃ (m' : Nat) (cur : Str) (R : List (Addr × Str × Int)) (rest : List Str) (v8 : Option V), m' < m ∧ look L cur = some m' ∧
          σ' = [some (.ref p), some (.ref l), some (.str e.nm), some (.str e.tl), some (.str cur), some (.ref ol), some (.ref d), some (.ref rl), v8, none, none] ∧ Same H4 H' ∧
          H' rl = some (.lst (R.map fun q : Addr × Str × Int => V.ref q.1)) ∧ RingAt H' R ∧ rnm R = e.nm :: rest ∧ Dn G (fun n => n ∈ ns ∧ n ≠ e.nm) (look L) rest e.hd cur, fun σ' H' h => ?_, ?_⟩
        · obtain ⟨m', cur, R, rest, v8, h1, h2⟩ := h
          exact ⟨m', h1, cur, R, rest, v8, h2⟩
        -- near
        have s17 := s14.trans s7
        refine ⟨_, rfl, _, rfl, _, rfl, p, ol, cur, kn, G, os, rfl, hp.same s17, hon4.same s7, fun r H8 S nr s8 hr8 hS8 hOf hlS => ?_⟩
        have hd8 := s8 _ _ (s7 _ _ hd4)
        refine ⟨r, rfl, ⟨_, sq hr8⟩, fun D nD => ?_⟩
        have lows : ∀ q ∈ S, ∃ n, look L q.2.2.2 = some n := fun q hq => by
          obtain ⟨f, hf, h1, h2, hj⟩ := hOf.is q hq
          obtain ⟨l', h, _⟩ := lv.step f hf h2 cur q.2.2.2 m hj hm
          exact ⟨l', h⟩
        refine lc_gen (walk_list (xs := S.map fun q : Addr × Str × Int × Str => V.ref q.1)) nD (by rw [List.length_map]; omega) (fun H' s' => s'.seq (sq hr8))
          (fun i acc _ => acc = ((S.take i).filter fun q => decide ((look L q.2.2.2).getD 0 < m)).map fun q : Addr × Str × Int × Str => V.ref q.1) rfl (fun _ _ _ _ _ h => h)
          (fun i acc _ h => by rw [h, List.length_map]; exact Nat.le_trans (List.length_filter_le _ _) (by rw [List.length_take]; omega)) ?_ ?_
        · rintro i v H9 H10 acc hi s9 ha rfl ⟨rfl, hv⟩ N kT kF
          obtain ⟨x, hx, rfl⟩ := steps_getElem hv
          have hmx := List.mem_of_getElem? hx
          obtain ⟨n, hln⟩ := lows x hmx
          have hd9 := s9 _ _ hd8
          refine ⟨rfl, _, rfl, _, rfl, x.1, _, 2, _, rfl, rfl, st (s9 _ _ (hS8 x hmx)), rfl, d, _, rfl, lv_get hd9 hln, _, rfl, _, rfl, d, _, rfl, lv_get hd9 hm, _, _, rfl, rfl, _, rfl, ?_⟩
          have ex := take_filter_snoc hx (fun q => decide ((look L q.2.2.2).getD 0 < m))
          rw [hln, Option.getD_some] at ex
          by_cases c2 : n < m
          · refine itD (by omega) ⟨_, rfl, kT _ _ (Same.refl _) ?_⟩
            rw [ex, if_pos (by simpa using c2), List.map_append]
            rfl
          · refine itN (by omega) (kF _ (Same.refl _) ?_)
            rw [ex, if_neg (by simpa using c2), List.append_nil]
        rintro H9 acc s9 ha9 rfl
        rw [List.length_map, List.take_length] at ha9
        -- there is a step down
        have ne : ∃ q0 F', S.filter (fun q => decide ((look L q.2.2.2).getD 0 < m)) = q0 :: F' := by
          rcases lv.back cur m hm with z | ⟨f, hf, hfn, y, l', hj, hy, hl⟩
          · exact absurd z c
          · obtain ⟨q, hq, _, hqy⟩ := hOf.has f hf hfn y hj
            have : q ∈ S.filter (fun q => decide ((look L q.2.2.2).getD 0 < m)) := List.mem_filter.mpr ⟨hq, by rw [hqy, hy]; simpa using hl⟩
            cases hF : S.filter (fun q => decide ((look L q.2.2.2).getD 0 < m)) with
            | nil => rw [hF] at this; cases this
            | cons a b => exact ⟨a, b, rfl⟩
        obtain ⟨q0, F', hF⟩ := ne
        rw [hF] at ha9
        have hq0 : q0 ∈ S.filter (fun q => decide ((look L q.2.2.2).getD 0 < m)) := by rw [hF]; exact List.mem_cons_self
        obtain ⟨hq0S, hq0m⟩ := List.mem_filter.mp hq0
        obtain ⟨n, hln⟩ := lows q0 hq0S
        rw [hln, Option.getD_some] at hq0m
        have hnm : n < m := by simpa using hq0m
        obtain ⟨f, hf, f1, f2, fj⟩ := hOf.is q0 hq0S
        have s89 := s8.trans s9
        have hr9 := s89 _ _ hr7
        have ht9 := s9 _ _ (hS8 q0 hq0S)
        -- ring.append(near[0][:2])
        refine ⟨.ref rl, rfl, .inl ⟨rfl, _, sq hr9⟩, _, rfl, D, _, 0, .ref q0.1, rfl, rfl, sq ha9, at_of (j := 0) rfl rfl, 2, rfl, q0.1, _, rfl, st ht9, by show ¬ (HT.sIx 3 0 none = 0 ∧ HT.sIx 3 3 (some 2) = 3); decide, fun t10 nt10 => ?_⟩
        rw [show cutV (stV q0.2) none (some 2) = rgV (q0.2.1, q0.2.2.1) from cut_two _ _ _]
        have s10 : Same H9 (upd H9 t10 (.tup (rgV (q0.2.1, q0.2.2.1)))) := same_upd nt10
        generalize hH10 : upd H9 t10 (.tup (rgV (q0.2.1, q0.2.2.1))) = H10 at s10
        have ht10 : H10 t10 = some (.tup (rgV (q0.2.1, q0.2.2.1))) := by rw [← hH10, upd_same]
        have hr10 := s10 _ _ hr9
        have lR : R.length = rest.length + 1 := by
          have := congrArg List.length hrn
          unfold rnm at this
          rw [List.length_map, List.length_cons] at this
          exact this
        refine ⟨rl, _, .ref t10, rfl, rfl, hr10, small1000 (by rw [List.length_map]; omega), ?_⟩
        have nDr : D ≠ rl := (ne_of_none (s8 _ _ hr7) nD).symm
        have ntr : ∀ {a : Addr} {xs : List V}, H10 a = some (.tup xs) → a ≠ rl := fun h => ne_of h hr10 (by intro z; cases z)
        refine ⟨_, rfl, D, _, 0, .ref q0.1, rfl, rfl, .inl (.inl (by rw [upd_ne nDr]; exact s10 _ _ ha9)), at_of (j := 0) rfl rfl, q0.1, _, 2, _, rfl, rfl, st (by rw [upd_ne (ntr (s10 _ _ ht9))]; exact s10 _ _ ht9), rfl, ?_⟩
        refine ⟨n, q0.2.2.2, R ++ [(t10, q0.2.1, q0.2.2.1)], rest ++ [q0.2.1], _, hnm, hln, rfl, same_at (s7.trans (s89.trans s10)) nrl4, ?_, fun q hq => ?_, ?_, ?_⟩
        · rw [upd_same, List.map_append]
          rfl
        · rcases List.mem_append.mp hq with hq | hq
          · have h := s10 _ _ (s89 _ _ (hR7 q hq))
            rw [upd_ne (ntr h)]
            exact h
          · rw [List.mem_singleton.mp hq]
            show upd H10 rl _ t10 = _
            rw [upd_ne (ntr ht10)]
            exact ht10
        · unfold rnm at hrn ⊢
          rw [List.map_append, hrn]
          rfl
        · rw [← f1]
          exact dn.snoc hf ((hos _).mp f2) fj hm hln hnm
end
end Msr
end
section
/-! bridges, unmetered, untold_ring, is_told, told_streams. -/
namespace Msr
open PySem PySem.Spec PyProof.Rows L2 Ms MsLow
section
variable {P : Program} {w : World} {K : PySem.W.Frag} {mg : Str → Option Value} {base : Heap} {C : Addr}
/-! ### bridges -/
theorem bridge_iff {kn : List Str} {G : List (Sm Str)} {ns : List Str} (wf : Wf kn G) {e : Sm Str} (he : e ∈ G) : IsBridge G ns e.nm ↔ ¬ Rch G (fun n => n ∈ ns ∧ n ≠ e.nm) e.hd e.tl := by
  unfold IsBridge
  constructor
  · intro h r
    exact h ⟨e, he, rfl, r⟩
  · rintro h ⟨f, hf, hn, r⟩
    obtain rfl := wf.uq f hf e he hn
    exact h r
theorem sc_bridges : FnScope ["plant", "names", "name"] ["plant", "names"] (defScope sBridges) := ⟨rfl, rfl, rfl, by decide +kernel, rfl, by decide +kernel, by decide +kernel⟩
theorem ok_bridges {f f1 f2 : Addr} {fd fd1 fd2 : FuncData} (F : Fun K "bridges" "bridges" sBridges f fd) (T : Txt K mg C) (C1 : Cal P w K mg base 2 "check_names" ["plant", "names"] (spCheck K C) f1 fd1)
    (C2 : Cal P w K mg base 5 "ring_through" ["plant", "names", "name"] (spRing K C) f2 fd2) : FnOk P w K mg base CX0 6 f fd ["plant", "names"] (spBridges K C) := by
  refine F.ok sc_bridges (fun vs H Q E h => ?_) (fun cdv A outer s H vs Q E hr h => ?_)
  · obtain ⟨p, l, kn, G, ns, rfl, _⟩ := h
    rfl
  · obtain ⟨p, l, kn, G, ns, rfl, hp, hn, q⟩ := h
    have wf := hp.wf
    have hr2 : Room 2 _ := hr.mono (by decide)
    have hlen := hn.len wf
    refine ⟨_, pss_cons (ps_expr (pe_call C1.ok hr2 rfl C1.mg_ C1.kp C1.bd .nil pass0 (pa_cons (pv 0) (pa_cons (pv 1) pa_nil))))
      (pss_one (ps_ret (pe_lc (own := [("name", 2)]) (g := gName 2) (by rfl) sc_bridges.nd (pi_list (pe_callB cr_sortedS (by rfl) T.sorted (by decide +kernel) (pa_cons (pv 1) pa_nil)))
        (blkOk_by (own := [("name", 2)]) (N := ["plant", "names", "name"]) (sc := defScope sBridges) (by decide +kernel))
        (fun _ _ _ _ _ => pg_name (i := 2) sc_bridges.nd rfl (Or.inl rfl)) (fun _ _ _ _ _ => pts_one (pt_cmpR op_isN (pe_call C2.ok hr rfl C2.mg_ C2.kp C2.bd .nil pass0 (pa_cons (pv 0) (pa_cons (pv 1) (pa_cons (pv 2) pa_nil)))) pe_non (nomark _))) (fun _ _ _ _ _ => pv 2)))), ?_⟩
    refine ⟨_, rfl, _, rfl, p, l, kn, G, ns, rfl, hp, hn, fun H1 s1 => ?_⟩
    refine ⟨_, rfl, l, ns, rfl, s1.seq hn.sq, by omega, fun ys p2 pm _ np2 => ?_⟩
    have s2 : Same H1 (upd H1 p2 (.lst (ys.map V.str))) := same_upd np2
    generalize hH2 : upd H1 p2 (.lst (ys.map V.str)) = H2 at s2
    have hy : H2 p2 = some (.lst (ys.map V.str)) := by rw [← hH2, upd_same]
    have s12 := s1.trans s2
    have ndy : ys.Nodup := pm.nodup_iff.mpr hn.nd
    refine ⟨p2, rfl, ⟨_, sq hy⟩, fun D nD => ?_⟩
    refine lc_gen (walk_list (xs := ys.map V.str)) nD (by rw [List.length_map, pm.length_eq]; omega) (fun H' s' => s'.seq (sq hy)) (fun i acc _ => ∃ bs : List Str, acc = bs.map V.str ∧ bs.Sublist (ys.take i) ∧ ∀ n ∈ ys.take i, (n ∈ bs ↔ IsBridge G ns n))
      ⟨[], rfl, List.nil_sublist _, fun n hn => by simp at hn⟩ (fun _ _ _ _ _ h => h) (fun i acc _ h => by
        obtain ⟨bs, rfl, h, _⟩ := h
        rw [List.length_map]
        exact Nat.le_trans h.length_le (by rw [List.length_take]; omega)) ?_ ?_
    · rintro i v H3 H4 acc hi s3 ha ⟨bs, rfl, hs, hb⟩ ⟨rfl, hv⟩ N kT kF
      obtain ⟨x, hx, rfl⟩ := strs_getElem hv
      have hxm := List.mem_of_getElem? hx
      obtain ⟨e, he, rfl⟩ := List.mem_map.mp (hn.sub x (pm.mem_iff.mp hxm))
      have tk : ys.take (i + 1) = ys.take i ++ [e.nm] := by rw [List.take_add_one, hx]; rfl
      have hni : e.nm ∉ ys.take i := by
        have := ndy.sublist (List.take_sublist (i + 1) ys)
        rw [tk] at this
        exact fun h => (List.nodup_append.mp this).2.2 _ h _ (List.mem_singleton.mpr rfl) rfl
      have sx := s12.trans s3
      refine ⟨rfl, _, rfl, _, rfl, _, rfl, p, l, e, kn, G, ns, rfl, hp.same sx, hn.same sx, he, ?_, ?_⟩
      · intro H5 s5 nr
        refine ⟨rfl, true, rfl, iteT ⟨_, rfl, kT _ _ s5 ⟨bs ++ [e.nm], by rw [List.map_append]; rfl, by rw [tk]; exact hs.append (List.Sublist.refl _), fun n hn => ?_⟩⟩⟩
        rw [tk] at hn
        rcases List.mem_append.mp hn with h | h
        · rw [List.mem_append, hb n h, List.mem_singleton]
          constructor
          · rintro (z | z)
            · exact z
            · exact absurd h (z ▸ hni)
          · exact .inl
        · obtain rfl := List.mem_singleton.mp h
          rw [bridge_iff wf he]
          simp [nr]
      · intro r H5 R rest s5 _ _ _ _ ro
        refine ⟨rfl, false, rfl, iteF (kF _ s5 ⟨bs, rfl, by rw [tk]; exact hs.trans (List.sublist_append_left _ _), fun n hn => ?_⟩)⟩
        rw [tk] at hn
        rcases List.mem_append.mp hn with h | h
        · exact hb n h
        · obtain rfl := List.mem_singleton.mp h
          rw [bridge_iff wf he]
          constructor
          · intro z
            exact absurd (hs.subset z) hni
          · intro z
            exact absurd ⟨rest, ro.wk⟩ z
    · rintro H3 acc s3 ha3 ⟨bs, rfl, hs, hb⟩
      rw [List.length_map, List.take_length] at hs hb
      refine q D H3 bs (s12.trans s3) ha3 (ndy.sublist hs) fun n => ?_
      constructor
      · intro h
        have hm := hs.subset h
        exact ⟨pm.mem_iff.mp hm, (hb n hm).mp h⟩
      · rintro ⟨h1, h2⟩
        exact (hb n (pm.mem_iff.mpr h1)).mpr h2
/-! ### unmetered -/
theorem unms_sub {G : List (Sm Str)} {M : List Str} : ∀ n ∈ unms G M, n ∈ nms G := fun n h => (List.mem_filter.mp h).1
theorem mem_unms {G : List (Sm Str)} {M : List Str} {n : Str} : n ∈ unms G M ↔ n ∈ nms G ∧ n ∉ M := by
  unfold unms
  rw [List.mem_filter]
  simp
theorem unms_nd {kn : List Str} {G : List (Sm Str)} {M : List Str} (wf : Wf kn G) : (unms G M).Nodup := wf.gnd.sublist List.filter_sublist
/-- [name for name in plant.stream_names() if name not in metered], read -/
theorem lc_unms {J : PySem.W.Frag} {kn : List Str} {G : List (Sm Str)} {M : List Str} {l b : Addr} {i0 j0 : Nat} {vs : List Nat} {σ : L2.St} {H1 : Hp} {D : Addr} {Qd : Hp → Prop} (wf : Wf kn G) (hM : SqL K H1 l (M.map V.str)) (hb : H1 b = some (.lst ((nms G).map V.str))) (nD : H1 D = none)
    (hw : ∀ v, wipe ((wipe σ vs).set i0 v) vs = wipe σ vs) (hi : ∀ v, ((wipe σ vs).set i0 v)[i0]? = some v) (hj : ∀ v, ((wipe σ vs).set i0 v)[j0]? = some (some (.ref l)))
    (hd : ∀ H, Same H1 H → H D = some (.lst ((unms G M).map V.str)) → Qd H) :
    ∃ W : Nat → Nat → Hp → Prop, (∃ m, W 0 m (upd H1 D (.lst []))) ∧ ∀ i m H, W i m H →
      ((Itl K b).stop i H ∧ Qd H) ∨ ((Itl K b).go i H ∧ ∃ Nx : Hp → Prop, (∀ H', Nx H' → ∃ m', m' < m ∧ W (i + 1) m' H') ∧ ∀ x H', (Itl K b).yld i H x H' → gName i0 x (wipe σ vs) H' fun σ2 H2 => wipe σ2 vs = wipe σ vs ∧ tTest (tOp (rIn K true) (tVar i0) (tVar j0)) σ2 H2 fun b H3 =>
        if b = true then tVar i0 σ2 H3 fun y H4 => ∃ acc, H4 D = some (.lst acc) ∧ acc.length < sizeLine ∧ Nx (upd H4 D (.lst (acc ++ [y]))) else Nx H3) := by
  have hg := wf.glen
  have hg2 : (nms G).length ≤ 60 := by unfold nms; rw [List.length_map]; exact hg
  refine lc_gen (walk_list (xs := (nms G).map V.str)) nD (by rw [List.length_map]; omega) (fun H' s' => s'.seq (sq hb)) (fun i acc _ => acc = (((nms G).take i).filter fun n => !decide (n ∈ M)).map V.str) rfl (fun _ _ _ _ _ h => h)
    (fun i acc _ h => by rw [h, List.length_map]; exact Nat.le_trans (List.length_filter_le _ _) (by rw [List.length_take]; omega)) ?_ ?_
  · rintro i v H3 H4 acc hi' s3 ha rfl ⟨rfl, hv⟩ N kT kF
    obtain ⟨x, hx, rfl⟩ := strs_getElem hv
    refine ⟨hw _, _, hi _, _, hj _, l, _, rfl, .inl (s3.seq hM), rfl, flat_strs _, !decide (x ∈ M), ?_, ?_⟩
    · show V.bl (!inV (.str x) (M.map V.str)) = _
      rw [inV_str]
    have ex := take_filter_snoc hx (fun n => !decide (n ∈ M))
    by_cases c : x ∈ M
    · refine itD' c (kF _ (Same.refl _) ?_)
      rw [ex, if_neg (by simp [c]), List.append_nil]
    · refine itN' c ⟨_, hi _, kT _ _ (Same.refl _) ?_⟩
      rw [ex, if_pos (by simp [c]), List.map_append]
      rfl
  · rintro H3 acc s3 ha3 rfl
    rw [List.length_map, List.take_length] at ha3
    exact hd H3 s3 ha3
theorem sc_unm : FnScope ["plant", "metered", "name"] ["plant", "metered"] (defScope sUnm) := ⟨rfl, rfl, rfl, by decide +kernel, rfl, by decide +kernel, by decide +kernel⟩
theorem ok_unm {f f1 m1 : Addr} {fd fd1 md1 : FuncData} (F : Fun K "unmetered" "unmetered" sUnm f fd) (T : Txt K mg C) (C1 : Cal P w K mg base 2 "check_names" ["plant", "names"] (spCheck K C) f1 fd1) (M1 : Met P w K mg base C 1 "stream_names" ["self"] (spNames C) m1 md1) :
    FnOk P w K mg base CX0 3 f fd ["plant", "metered"] (spUnm K C) := by
  refine F.ok sc_unm (fun vs H Q E h => ?_) (fun cdv A outer s H vs Q E hr h => ?_)
  · obtain ⟨p, l, kn, G, M, rfl, _⟩ := h
    rfl
  · obtain ⟨p, l, kn, G, M, rfl, hp, hn, q⟩ := h
    obtain ⟨dx, kl, sl, L0, h1, _⟩ := hp.at_
    have hr1 : Room 1 _ := hr.mono (by decide)
    refine ⟨_, pss_cons (ps_expr (pe_call C1.ok hr rfl C1.mg_ C1.kp C1.bd .nil pass0 (pa_cons (pv 0) (pa_cons (pv 1) pa_nil))))
      (pss_one (ps_ret (pe_lc (own := [("name", 2)]) (g := gName 2) (by rfl) sc_unm.nd (pi_list (pe_meth0 (pv 0) T.cl M1.mt M1.ok hr1 M1.bd .nil pass0)) (blkOk_by (own := [("name", 2)]) (N := ["plant", "metered", "name"]) (sc := defScope sUnm) (by decide +kernel))
        (fun _ _ _ _ _ => pg_name (i := 2) sc_unm.nd rfl (Or.inl rfl)) (fun _ _ _ _ _ => pts_one (pt_cmpR (r := rIn K true) op_notIn_seq (pv 2) (pv 1) (by rfl))) (fun _ _ _ _ _ => pv 2)))), ?_⟩
    refine ⟨_, rfl, _, rfl, p, l, kn, G, M, rfl, hp, hn, fun H1 s1 => ?_⟩
    refine ⟨_, rfl, p, dx, _, rfl, s1 _ _ h1, pflds_no _ _ (by decide +kernel) (by decide +kernel), p, kn, G, rfl, hp.same s1, fun b H2 s2 hb => ?_⟩
    have s12 := s1.trans s2
    refine ⟨b, rfl, ⟨_, sq hb⟩, fun D nD => ?_⟩
    exact lc_unms (J := K) hp.wf (s12.seq hn.sq) hb nD (fun _ => rfl) (fun _ => rfl) (fun _ => rfl) fun H3 s3 h3 => q D H3 (s12.trans s3) h3
/-! ### untold_ring, is_told -/
theorem rch_unms {G : List (Sm Str)} {M : List Str} {n x y : Str} : Rch G (fun k => k ∈ unms G M ∧ k ≠ n) x y ↔ Rch G (fun k => ¬ k ∈ M ∧ k ≠ n) x y := by
  constructor
  · exact fun h => h.mono fun k hk => ⟨(mem_unms.mp hk.1).2, hk.2⟩
  · rintro ⟨ns, wk⟩
    exact ⟨ns, wk.mono fun k hk h => ⟨mem_unms.mpr ⟨(by obtain ⟨e, he, rfl⟩ := wk.named k hk; exact List.mem_map.mpr ⟨e, he, rfl⟩), h.1⟩, h.2⟩⟩
theorem sc_untold : FnScope ["plant", "metered", "name", "others"] ["plant", "metered", "name"] (defScope sUntold) := ⟨rfl, rfl, rfl, by decide +kernel, rfl, by decide +kernel, by decide +kernel⟩
theorem ok_untold {f f1 f2 f3 : Addr} {fd fd1 fd2 fd3 : FuncData} (F : Fun K "untold_ring" "untold_ring" sUntold f fd) (T : Txt K mg C) (C1 : Cal P w K mg base 3 "unmetered" ["plant", "metered"] (spUnm K C) f1 fd1)
    (C2 : Cal P w K mg base 2 "check_names" ["plant", "names"] (spCheck K C) f2 fd2) (C3 : Cal P w K mg base 5 "ring_through" ["plant", "names", "name"] (spRing K C) f3 fd3) :
    FnOk P w K mg base CX0 6 f fd ["plant", "metered", "name"] (spUntold K C) := by
  refine F.ok sc_untold (fun vs H Q E h => ?_) (fun cdv A outer s H vs Q E hr h => ?_)
  · obtain ⟨p, l, n, kn, G, M, rfl, _⟩ := h
    rfl
  · obtain ⟨p, l, n, kn, G, M, rfl, hp, hn, hnG, q⟩ := h
    have hr2 : Room 2 _ := hr.mono (by decide)
    have hr3 : Room 3 _ := hr.mono (by decide)
    refine ⟨_, pss_cons (ps_set (i := 3) sc_untold.nd rfl (.inl rfl) (pe_call C1.ok hr3 rfl C1.mg_ C1.kp C1.bd .nil pass0 (pa_cons (pv 0) (pa_cons (pv 1) pa_nil))))
      (pss_cons (ps_expr (pe_call C2.ok hr2 rfl C2.mg_ C2.kp C2.bd .nil pass0 (pa_cons (pv 0) (pa_cons (pe_lst (pa_cons (pv 2) pa_nil)) pa_nil))))
      (pss_one (ps_ret (pe_ifExp (pt_cmpR op_in_seq (pv 2) (pv 1) (by rfl)) pe_non (pe_call C3.ok hr rfl C3.mg_ C3.kp C3.bd .nil pass0 (pa_cons (pv 0) (pa_cons (pv 3) (pa_cons (pv 2) pa_nil)))))))), ?_⟩
    refine ⟨_, rfl, _, rfl, p, l, kn, G, M, rfl, hp, hn, fun r H1 s1 hr1 => ?_⟩
    refine ⟨_, rfl, _, rfl, by show 1 ≤ sizeLine; decide, fun l2 nl2 => ?_⟩
    have s2 : Same H1 (upd H1 l2 (.lst [.str n])) := same_upd nl2
    generalize hH2 : upd H1 l2 (.lst [.str n]) = H2 at s2
    have hl2 : H2 l2 = some (.lst ([n].map V.str)) := by rw [← hH2, upd_same]; rfl
    have s12 := s1.trans s2
    refine ⟨p, l2, kn, G, [n], rfl, hp.same s12, ⟨sq hl2, by simp, fun x hx => by rw [List.mem_singleton.mp hx]; exact hnG⟩, fun H3 s3 => ?_⟩
    have s13 := s12.trans s3
    refine ⟨_, rfl, _, rfl, l, _, rfl, .inl (s13.seq hn.sq), rfl, flat_strs _, decide (n ∈ M), by show V.bl (inV (.str n) (M.map V.str)) = _; rw [inV_str], ?_⟩
    by_cases c : n ∈ M
    · refine itD c (q _ H3 s13 ⟨fun _ => .inl c, fun _ => rfl⟩)
    · refine itN c ?_
      obtain ⟨e, he, rfl⟩ := List.mem_map.mp hnG
      have hto := told_out (m := (· ∈ M)) hp.wf.uq he c
      refine ⟨_, rfl, _, rfl, _, rfl, p, r, e, kn, G, unms G M, rfl, hp.same s13, ⟨sq (s3 _ _ (s2 _ _ hr1)), unms_nd hp.wf, unms_sub⟩, he, fun H4 s4 nr => q _ H4 (s13.trans s4) ⟨fun _ => hto.mpr fun z => nr (rch_unms.mpr z), fun _ => rfl⟩, ?_⟩
      intro r2 H4 R rest s4 _ _ _ _ ro
      exact q _ H4 (s13.trans s4) ⟨fun z => (by cases z), fun z => absurd (rch_unms.mp ⟨rest, ro.wk⟩) (hto.mp z)⟩
theorem sc_is_told : FnScope ["plant", "metered", "name"] ["plant", "metered", "name"] (defScope sIsTold) := ⟨rfl, rfl, rfl, by decide +kernel, rfl, by decide +kernel, by decide +kernel⟩
theorem ok_is_told {f f1 : Addr} {fd fd1 : FuncData} (F : Fun K "is_told" "is_told" sIsTold f fd) (T : Txt K mg C) (C1 : Cal P w K mg base 6 "untold_ring" ["plant", "metered", "name"] (spUntold K C) f1 fd1) :
    FnOk P w K mg base CX0 7 f fd ["plant", "metered", "name"] (spIsTold K C) := by
  refine F.ok sc_is_told (fun vs H Q E h => ?_) (fun cdv A outer s H vs Q E hr h => ?_)
  · obtain ⟨p, l, n, kn, G, M, rfl, _⟩ := h
    rfl
  · obtain ⟨p, l, n, kn, G, M, rfl, hp, hn, hnG, q⟩ := h
    refine ⟨_, pss_one (ps_ret (pe_cmpR op_isN (pe_call C1.ok hr rfl C1.mg_ C1.kp C1.bd .nil pass0 (pa_cons (pv 0) (pa_cons (pv 1) (pa_cons (pv 2) pa_nil)))) pe_non (nomark _))), ?_⟩
    refine ⟨_, rfl, _, rfl, _, rfl, p, l, n, kn, G, M, rfl, hp, hn, hnG, fun v H1 s1 hv => ⟨rfl, q _ H1 s1 ?_⟩⟩
    rw [decide_eq_true_eq]
    exact hv
/-! ### told_streams -/
theorem sc_toldS : FnScope ["plant", "metered"] ["plant", "metered"] (defScope sToldS) := ⟨rfl, rfl, rfl, by decide +kernel, rfl, by decide +kernel, by decide +kernel⟩
theorem ok_toldS {f f1 f2 : Addr} {fd fd1 fd2 : FuncData} (F : Fun K "told_streams" "told_streams" sToldS f fd) (T : Txt K mg C) (C1 : Cal P w K mg base 6 "bridges" ["plant", "names"] (spBridges K C) f1 fd1) (C2 : Cal P w K mg base 3 "unmetered" ["plant", "metered"] (spUnm K C) f2 fd2) :
    FnOk P w K mg base CX0 7 f fd ["plant", "metered"] (spToldS K C) := by
  refine F.ok sc_toldS (fun vs H Q E h => ?_) (fun cdv A outer s H vs Q E hr h => ?_)
  · obtain ⟨p, l, kn, G, M, rfl, _⟩ := h
    rfl
  · obtain ⟨p, l, kn, G, M, rfl, hp, hn, hl, q⟩ := h
    have hr3 : Room 3 _ := hr.mono (by decide)
    have wf := hp.wf
    refine ⟨_, pss_one (ps_ret (pe_callB cr_sortedS (by rfl) T.sorted (by decide +kernel) (pa_cons (pe_op op_cat (pv 1) (pe_call C1.ok hr rfl C1.mg_ C1.kp C1.bd .nil pass0 (pa_cons (pv 0) (pa_cons (pe_call C2.ok hr3 rfl C2.mg_ C2.kp C2.bd .nil pass0 (pa_cons (pv 0) (pa_cons (pv 1) pa_nil))) pa_nil)))) pa_nil))), ?_⟩
    refine ⟨_, rfl, _, rfl, _, rfl, _, rfl, p, l, kn, G, M, rfl, hp, hn, fun r H1 s1 h1 => ?_⟩
    refine ⟨p, r, kn, G, unms G M, rfl, hp.same s1, ⟨sq h1, unms_nd wf, unms_sub⟩, fun r2 H2 bs s2 h2 ndb hb => ?_⟩
    have s12 := s1.trans s2
    have mlen := hn.len wf
    have hlen : (M ++ bs).length ≤ 60 := by
      have nd : (M ++ bs).Nodup := List.nodup_append.mpr ⟨hn.nd, ndb, fun a ha b hb' e => (mem_unms.mp ((hb b).mp hb').1).2 (e ▸ ha)⟩
      have := nodup_sub_len nd (B := nms G) fun a ha => by
        rcases List.mem_append.mp ha with ha | ha
        · exact hn.sub a ha
        · exact unms_sub a ((hb a).mp ha).1
      have hg := wf.glen
      unfold nms at this
      rw [List.length_map] at this
      omega
    have blen : bs.length ≤ 60 := by rw [List.length_append] at hlen; omega
    refine ⟨l, r2, _, _, rfl, rfl, s12 _ _ hl, h2, Nat.le_of_lt (small1000 (by rw [List.length_map, List.length_map]; omega)), fun p3 np3 => ?_⟩
    rw [← List.map_append]
    refine ⟨p3, M ++ bs, rfl, sq upd_same, by omega, fun ys p4 pm so np4 => ?_⟩
    refine q p4 _ ys (s12.trans ((same_upd np3).trans (same_upd np4))) upd_same so ?_ fun n => ?_
    · exact pm.nodup_iff.mpr (List.nodup_append.mpr ⟨hn.nd, ndb, fun a ha b hb' e => (mem_unms.mp ((hb b).mp hb').1).2 (e ▸ ha)⟩)
    · rw [pm.mem_iff, List.mem_append, hb n]
      constructor
      · rintro (h | ⟨h, hbr⟩)
        · exact ⟨hn.sub n h, .inl h⟩
        · obtain ⟨e, he, rfl⟩ := List.mem_map.mp (unms_sub n h)
          refine ⟨unms_sub _ h, (told_out (m := (· ∈ M)) wf.uq he (mem_unms.mp h).2).mpr fun z => ?_⟩
          exact (bridge_iff wf he).mp hbr (rch_unms.mpr z)
      · rintro ⟨hnG, ht⟩
        by_cases c : n ∈ M
        · exact .inl c
        · obtain ⟨e, he, rfl⟩ := List.mem_map.mp hnG
          refine .inr ⟨mem_unms.mpr ⟨hnG, c⟩, (bridge_iff wf he).mpr fun z => ?_⟩
          exact (told_out (m := (· ∈ M)) wf.uq he c).mp ht (rch_unms.mp z)
end
end Msr
end
section
/-! What the lots are, in plain Lean. -/
namespace Msr
open PySem PySem.Spec PyProof.Rows L2 Ms MsLow
theorem str_tri {x y : Str} (h1 : ¬ x.cps.toList < y.cps.toList) (h2 : ¬ y.cps.toList < x.cps.toList) : x = y := by
  have e : x.cps.toList = y.cps.toList := List.le_antisymm (List.not_lt.mp h2) (List.not_lt.mp h1)
  obtain ⟨⟨a⟩⟩ := x
  obtain ⟨⟨b⟩⟩ := y
  have e' : a = b := e
  rw [e']
theorem pair_of (x y : Str) : (bigger x y = x ∧ lesser x y = y) ∨ (bigger x y = y ∧ lesser x y = x) := by
  unfold bigger lesser
  by_cases h1 : x.cps.toList < y.cps.toList
  · rw [if_pos h1, if_neg (fun h2 => List.lt_irrefl _ (List.lt_trans h1 h2))]
    exact .inr ⟨rfl, rfl⟩
  · rw [if_neg h1]
    by_cases h2 : y.cps.toList < x.cps.toList
    · rw [if_pos h2]
      exact .inl ⟨rfl, rfl⟩
    · rw [if_neg h2]
      exact .inl ⟨rfl, str_tri h1 h2⟩
theorem tieF_eq {f : Str → Str} {a b x y : Str} : tieF f a b x = tieF f a b y ↔ f x = f y ∨ (f x = f a ∧ f y = f b) ∨ (f x = f b ∧ f y = f a) := by
  unfold tieF
  rcases pair_of (f a) (f b) with ⟨h1, h2⟩ | ⟨h1, h2⟩ <;> rw [h1, h2]
  all_goals
    by_cases c1 : f x = f a <;> by_cases c2 : f x = f b <;> by_cases c3 : f y = f a <;> by_cases c4 : f y = f b <;> simp_all
  all_goals first | exact ⟨fun z => absurd z.symm c4, fun z => absurd z.symm c3⟩ | exact ⟨fun z => absurd z.symm c3, fun z => absurd z.symm c4⟩
theorem tieF_in {kn : List Str} {f : Str → Str} {a b : Str} (h : ∀ x ∈ kn, f x ∈ kn) (ha : a ∈ kn) (hb : b ∈ kn) : ∀ x ∈ kn, tieF f a b x ∈ kn := by
  intro x hx
  unfold tieF
  split
  · rcases pair_of (f a) (f b) with ⟨_, h2⟩ | ⟨_, h2⟩
    · rw [h2]; exact h b hb
    · rw [h2]; exact h a ha
  · exact h x hx
/-- the lots by the streams ns -/
structure LotsInv (kn : List Str) (G : List (Sm Str)) (ns : List Str) (f : Str → Str) : Prop where
  ins : ∀ x ∈ kn, f x ∈ kn
  eq : ∀ x ∈ kn, ∀ y ∈ kn, (f x = f y ↔ Rch G (· ∈ ns) x y)
theorem LotsInv.start (kn : List Str) (G : List (Sm Str)) : LotsInv kn G [] id := by
  refine ⟨fun x h => h, fun x _ y _ => ⟨fun h => ?_, fun h => ?_⟩⟩
  · have h : x = y := h
    rw [h]
    exact Rch.refl _
  · obtain ⟨ns, w⟩ := h
    cases w with
    | nil => rfl
    | cons _ hs _ _ => cases hs
theorem LotsInv.step {kn : List Str} {G : List (Sm Str)} {ns : List Str} {f : Str → Str} (wf : Wf kn G) (h : LotsInv kn G ns f) {e : Sm Str} (he : e ∈ G) : LotsInv kn G (ns ++ [e.nm]) (tieF f e.tl e.hd) := by
  obtain ⟨_, ht, hh, _⟩ := wf.gok e he
  refine ⟨tieF_in h.ins ht hh, fun x hx y hy => ?_⟩
  have hp : (fun n => n ∈ ns ++ [e.nm]) = (fun n => n ∈ ns ∨ n = e.nm) := funext fun n => propext (by simp)
  rw [tieF_eq, h.eq x hx y hy, h.eq x hx _ ht, h.eq y hy _ hh, h.eq x hx _ hh, h.eq y hy _ ht, hp]
  have up : ∀ {u v}, Rch G (· ∈ ns) u v → Rch G (fun n => n ∈ ns ∨ n = e.nm) u v := fun k => k.mono fun n hn => .inl hn
  have one : Rch G (fun n => n ∈ ns ∨ n = e.nm) e.tl e.hd := Rch.one he (.inr rfl) (.inl ⟨rfl, rfl⟩)
  constructor
  · rintro (k | ⟨k1, k2⟩ | ⟨k1, k2⟩)
    · exact up k
    · exact (up k1).trans (one.trans (up k2).symm)
    · exact (up k1).trans (one.symm.trans (up k2).symm)
  · intro k
    rcases k.exch he (fun g hg q => wf.uq g hg e he q) with k | ⟨k1, k2⟩ | ⟨k1, k2⟩
    · exact .inl k
    · exact .inr (.inl ⟨k1, k2.symm⟩)
    · exact .inr (.inr ⟨k1, k2.symm⟩)
theorem lotF_inv {kn : List Str} {G : List (Sm Str)} (wf : Wf kn G) : ∀ (ms ns : List Str) (f : Str → Str), (∀ n ∈ ms, n ∈ nms G) → LotsInv kn G ns f →
    LotsInv kn G (ns ++ ms) (ms.foldl (fun f n => match G.find? (fun e => decide (e.nm = n)) with | some e => tieF f e.tl e.hd | none => f) f)
  | [], ns, f, _, h => by rw [List.append_nil]; exact h
  | m :: ms, ns, f, hm, h => by
    obtain ⟨e, he, rfl⟩ := List.mem_map.mp (hm m List.mem_cons_self)
    rw [List.foldl_cons, find_nm wf.uq he]
    have := lotF_inv wf ms (ns ++ [e.nm]) (tieF f e.tl e.hd) (fun n hn => hm n (List.mem_cons_of_mem _ hn)) (h.step wf he)
    rw [List.append_assoc] at this
    exact this
theorem lots_inv {kn : List Str} {G : List (Sm Str)} (wf : Wf kn G) {ns : List Str} (h : ∀ n ∈ ns, n ∈ nms G) : LotsInv kn G ns (lotF G ns) := lotF_inv wf ns [] id h (LotsInv.start kn G)
/-- the merged web -/
theorem theW_mrg {kn : List Str} {G : List (Sm Str)} (wf : Wf kn G) (M : List Str) : Mrg G (· ∈ kn) (· ∈ M) (lotF G (unms G M)) (theW G M) := by
  have li := lots_inv wf (unms_sub (G := G) (M := M))
  refine ⟨fun e he => ⟨(wf.gok e he).2.1, (wf.gok e he).2.2.1⟩, fun x y hx hy => ?_, fun f => ?_⟩
  · rw [li.eq x hx y hy]
    constructor
    · exact fun h => h.mono fun k hk => (mem_unms.mp hk).2
    · rintro ⟨ns, wk⟩
      exact ⟨ns, wk.mono fun k hk h => mem_unms.mpr ⟨(by obtain ⟨e, he, rfl⟩ := wk.named k hk; exact List.mem_map.mpr ⟨e, he, rfl⟩), h⟩⟩
  · unfold theW
    rw [List.mem_map]
    constructor
    · rintro ⟨e, he, rfl⟩
      obtain ⟨h1, h2⟩ := List.mem_filter.mp he
      exact ⟨e, h1, by simpa using h2, rfl⟩
    · rintro ⟨e, he, hM, rfl⟩
      exact ⟨e, List.mem_filter.mpr ⟨he, by simpa using hM⟩, rfl⟩
/-- a least ring hangs on the members of the web alone -/
theorem wk_mem {W W' : List (Sm Str)} {S : Str → Prop} (h : ∀ e, e ∈ W → e ∈ W') {ns : List Str} {x y : Str} (w : Wk W S ns x y) : Wk W' S ns x y := by
  induction w with
  | nil x => exact .nil x
  | cons he hs hj _ ih => exact .cons (h _ he) hs hj ih
theorem least_mem {W W' : List (Sm Str)} (h : ∀ e, e ∈ W ↔ e ∈ W') : ∀ {res : Option (List Str)}, LeastOf W res → LeastOf W' res
  | none, l => fun e he ⟨ns, w⟩ => l e ((h e).mpr he) ⟨ns, wk_mem (fun e he => (h e).mpr he) w⟩
  | some r, ⟨⟨e, he, rest, h1, w, nd⟩, m⟩ => ⟨⟨e, (h e).mp he, rest, h1, wk_mem (fun e he => (h e).mp he) w, nd⟩, fun f hf ns w => m f ((h f).mpr hf) ns (wk_mem (fun e he => (h e).mpr he) w)⟩
end Msr
end
section
/-! merged, least_ring, ring_length, found_up_to, mended_up_to. -/
namespace Msr
open PySem PySem.Spec PyProof.Rows L2 Ms MsLow
/-- the making of a plant -/
structure Mki (P : Program) (w : World) (K : PySem.W.Frag) (mg : Str → Option Value) (base : Heap) (C : Addr) (f : Addr) (fd : FuncData) : Prop where
  ok : FnOk P w K mg base CX0 3 f fd ["self", "knots", "streams"] (spInit K C)
  mk_ : Mk K C f
  bd : Binds K fd ["self", "knots", "streams"] []
section
variable {P : Program} {w : World} {K : PySem.W.Frag} {mg : Str → Option Value} {base : Heap} {C : Addr}
/-! ### merged -/
theorem smsAt_put {H : Hp} {L : List (Addr × Sm Str)} {D : Addr} {xs ys : List V} (h : SmsAt H L) (hD : H D = some (.lst xs)) : SmsAt (upd H D (.lst ys)) L := fun q hq => by
  rw [upd_ne (ne_of (h q hq) hD (by intro z; cases z))]
  exact h q hq
theorem sc_merged : FnScope ["plant", "metered", "name", "lots", "streams", "tail", "head", "low", "high", "knot"] ["plant", "metered"] (defScope sMerged) := ⟨rfl, rfl, rfl, by decide +kernel, rfl, by decide +kernel, by decide +kernel⟩
theorem ok_merged {f f1 f2 m1 p1 g1 p2 g2 f4 : Addr} {fd fd1 fd2 md1 gd1 gd2 fd4 : FuncData} (F : Fun K "merged" "merged" sMerged f fd) (T : Txt K mg C) (C1 : Cal P w K mg base 2 "check_names" ["plant", "names"] (spCheck K C) f1 fd1)
    (C2 : Cal P w K mg base 3 "lots_by" ["plant", "names"] (spLots K C) f2 fd2) (M1 : Met P w K mg base C 1 "stream_names" ["self"] (spNames C) m1 md1) (R1 : Prp P w K mg base C 1 "knots" (spKnots C) p1 g1 gd1) (R2 : Prp P w K mg base C 1 "streams" (spStreams C) p2 g2 gd2)
    (I1 : Mki P w K mg base C f4 fd4) : FnOk P w K mg base CX0 5 f fd ["plant", "metered"] (spMerged K C) := by
  refine F.ok sc_merged (fun vs H Q E h => ?_) (fun cdv A outer s H vs Q E hr h => ?_)
  · obtain ⟨p, l, kn, G, M, rfl, _⟩ := h
    rfl
  · obtain ⟨p, l, kn, G, M, rfl, hp, hn, q⟩ := h
    obtain ⟨dx, kl, sl, L0, h1, _⟩ := hp.at_
    have wf := hp.wf
    have hr1 : Room 1 _ := hr.mono (by decide)
    have hr2 : Room 2 _ := hr.mono (by decide)
    have hr3 : Room 3 _ := hr.mono (by decide)
    have hu := hu_of hr
    refine ⟨_, pss_cons (ps_expr (pe_call C1.ok hr2 rfl C1.mg_ C1.kp C1.bd .nil pass0 (pa_cons (pv 0) (pa_cons (pv 1) pa_nil))))
      (pss_cons (ps_set (i := 3) sc_merged.nd rfl (.inr rfl) (pe_call C2.ok hr3 rfl C2.mg_ C2.kp C2.bd .nil pass0 (pa_cons (pv 0) (pa_cons
        (pe_lc (own := [("name", 2)]) (g := gName 2) (by rfl) sc_merged.nd (pi_list (pe_meth0 (pv 0) T.cl M1.mt M1.ok hr1 M1.bd .nil pass0)) (blkOk_by (own := [("name", 2)]) (N := ["plant", "metered", "name", "lots", "streams", "tail", "head", "low", "high", "knot"]) (sc := defScope sMerged) (by decide +kernel))
          (fun _ _ _ _ _ => pg_name (i := 2) sc_merged.nd rfl (Or.inl rfl)) (fun _ _ _ _ _ => pts_one (pt_cmpR (r := rIn K true) op_notIn_seq (pv 2) (pv 1) (by rfl))) (fun _ _ _ _ _ => pv 2)) pa_nil))))
      (pss_cons (ps_set (i := 4) sc_merged.nd rfl (.inl rfl) (pe_lst pa_nil))
      (pss_cons (ps_for PassesOwn.never rfl (pi_list (pe_prop (pv 0) T.cl R2.pr R2.ok hr2 R2.bd .nil pass0 (by rfl)))
        (pg_tup (by rfl) (pgs_cons (pg_name (i := 2) sc_merged.nd rfl (.inl rfl)) (pgs_cons (pg_name (i := 5) sc_merged.nd rfl (.inl rfl)) (pgs_cons (pg_name (i := 6) sc_merged.nd rfl (.inl rfl))
          (pgs_cons (pg_name (i := 7) sc_merged.nd rfl (.inl rfl)) (pgs_cons (pg_name (i := 8) sc_merged.nd rfl (.inl rfl)) pgs_nil))))))
        (pss_one (ps_if (pt_cmpR op_in_seq (pv 2) (pv 1) (by rfl))
          (pss_one (ps_expr (pe_bm PySem.F.plainAttrs_list PySem.F.slot_list_append PySem.F.type_list_append mt_append (pv 4) (pa_cons (pe_tup (pa_cons (pv 2) (pa_cons (pe_dget hu (pv 3) (pv 5) (fun _ _ => rfl)) (pa_cons (pe_dget hu (pv 3) (pv 6) (fun _ _ => rfl)) (pa_cons (pv 7) (pa_cons (pv 8) pa_nil)))))) pa_nil)))) pss_nil)))
      (pss_one (ps_ret (pe_make I1.mk_ I1.ok hr (by rfl) T.mgC I1.bd .nil pass0 (pa_cons (pe_callB (cr_sortedT rfl) (by rfl) T.sorted (by decide +kernel) (pa_cons (pe_callTy (cr_setT rfl) (by rfl) T.set (by decide +kernel) (pa_cons
          (pe_lc (own := [("knot", 9)]) (g := gName 9) (by rfl) sc_merged.nd (pi_list (pe_prop (pv 0) T.cl R1.pr R1.ok hr2 R1.bd .nil pass0 (by rfl))) (blkOk_by (own := [("knot", 9)]) (N := ["plant", "metered", "name", "lots", "streams", "tail", "head", "low", "high", "knot"]) (sc := defScope sMerged) (by decide +kernel))
            (fun _ _ _ _ _ => pg_name (i := 9) sc_merged.nd rfl (Or.inl rfl)) (fun _ _ _ _ _ => pts_nil) (fun _ _ _ _ _ => pe_dget hu (pv 3) (pv 9) (fun _ _ => rfl))) pa_nil)) pa_nil)) (pa_cons (pv 4) pa_nil)))))))), ?_⟩
    refine ⟨_, rfl, _, rfl, p, l, kn, G, M, rfl, hp, hn, fun H1 s1 => ?_⟩
    -- lots
    refine ⟨_, rfl, _, rfl, p, dx, _, rfl, s1 _ _ h1, pflds_no _ _ (by decide +kernel) (by decide +kernel), p, kn, G, rfl, hp.same s1, fun b H2 s2 hb => ?_⟩
    have s12 := s1.trans s2
    refine ⟨b, rfl, ⟨_, sq hb⟩, fun D nD => ?_⟩
    refine lc_unms (J := K) wf (s12.seq hn.sq) hb nD (fun _ => rfl) (fun _ => rfl) (fun _ => rfl) fun H3 s3 h3 => ?_
    have s13 := s12.trans s3
    refine ⟨p, D, kn, G, unms G M, rfl, hp.same s13, ⟨sq h3, unms_nd wf, unms_sub⟩, fun d H4 s4 hd4 => ?_⟩
    have s14 := s13.trans s4
    have li := lots_inv wf (unms_sub (G := G) (M := M))
    -- streams = []
    refine ⟨by show 0 ≤ sizeLine; decide, fun S nS => ?_⟩
    have s5 : Same H4 (upd H4 S (.lst [])) := same_upd nS
    generalize hH5 : upd H4 S (.lst []) = H5 at s5
    have hS5 : H5 S = some (.lst []) := by rw [← hH5, upd_same]
    have hp5 := hp.same (s14.trans s5)
    refine ⟨_, rfl, p, dx, _, rfl, (s14.trans s5) _ _ h1, p, kn, G, rfl, hp5, fun sl1 H6 L nsl s6 hsl hL hG => ?_⟩
    have hGl : L.length ≤ 60 := by
      have := wf.glen
      rw [← hG, List.length_map] at this
      exact this
    have nsS : sl1 ≠ S := (ne_of_none hS5 nsl).symm
    refine ⟨sl1, rfl, ⟨_, sq hsl⟩, for_list (K := K) (a := sl1) (xs := L.map fun q : Addr × Sm Str => V.ref q.1) (fun i σ H' => Same H4 H' ∧ H' sl1 = some (.lst (L.map fun q : Addr × Sm Str => V.ref q.1)) ∧ SmsAt H' L ∧
        (∃ v2 v5 v6 v7 v8, σ = [some (.ref p), some (.ref l), v2, some (.ref d), some (.ref S), v5, v6, v7, v8, none]) ∧ ∃ Z : List (Addr × Sm Str), H' S = some (.lst (Z.map fun q : Addr × Sm Str => V.ref q.1)) ∧ SmsAt H' Z ∧
          Z.map (·.2) = ((G.take i).filter fun e => decide (e.nm ∈ M)).map (mrgE (lotF G (unms G M))) ∧ Z.length ≤ i)
      ⟨s5.trans s6, hsl, hL, ⟨none, none, none, none, none, rfl⟩, [], s6 _ _ hS5, (fun q hq => by cases hq), rfl, Nat.le_refl _⟩ (fun i σ H' _ h => sq h.2.1) ?_ ?_⟩
    · rintro i v σ H7 hv ⟨s7, hsl7, hL7, ⟨v2, v5, v6, v7, v8, rfl⟩, Z, hZ, hZs, hZm, hZl⟩
      have hil : i < L.length := by
        have := (List.getElem?_eq_some_iff.mp hv).1
        rw [List.length_map] at this
        exact this
      rw [List.getElem?_map] at hv
      obtain ⟨⟨a, e⟩, hx, rfl⟩ := Option.map_eq_some_iff.mp hv
      have he : G[i]? = some e := by rw [← hG, List.getElem?_map, hx]; rfl
      have hem := List.mem_of_getElem? he
      have hm := hL7 _ (List.mem_of_getElem? hx)
      obtain ⟨_, e1, e2, _⟩ := wf.gok e hem
      refine ⟨a, _, rfl, st hm, rfl, _, _, rfl, _, _, rfl, _, _, rfl, _, _, rfl, _, _, rfl, rfl, ?_⟩
      refine ⟨_, rfl, _, rfl, l, _, rfl, .inl (s7.seq (s14.seq hn.sq)), rfl, flat_strs _, decide (e.nm ∈ M), by show V.bl (inV (.str e.nm) (M.map V.str)) = _; rw [inV_str], ?_⟩
      have ex := take_filter_snoc he (fun e => decide (e.nm ∈ M))
      by_cases c : e.nm ∈ M
      · refine itD c ?_
        have hd7 := s7 _ _ hd4
        refine ⟨.ref S, rfl, .inl ⟨rfl, _, sq hZ⟩, _, rfl, _, rfl, _, rfl, d, _, rfl, kv_get hd7 e1, _, rfl, _, rfl, d, _, rfl, kv_get hd7 e2, _, rfl, _, rfl, by show 5 ≤ sizeLine; decide, fun t8 nt8 => ?_⟩
        have s8 : Same H7 (upd H7 t8 (.tup [.str e.nm, .str (lotF G (unms G M) e.tl), .str (lotF G (unms G M) e.hd), .int e.lo, .int e.hi])) := same_upd nt8
        generalize hH8 : upd H7 t8 (.tup [.str e.nm, .str (lotF G (unms G M) e.tl), .str (lotF G (unms G M) e.hd), .int e.lo, .int e.hi]) = H8 at s8
        have ht8 : H8 t8 = some (.tup (smV (mrgE (lotF G (unms G M)) e))) := by rw [← hH8, upd_same]; rfl
        refine ⟨S, _, .ref t8, rfl, rfl, s8 _ _ hZ, small1000 (by rw [List.length_map]; omega), ?_⟩
        refine ⟨same_at (s7.trans s8) nS, by rw [upd_ne nsS]; exact s8 _ _ hsl7, smsAt_put (smsAt_same hL7 s8) (s8 _ _ hZ), ⟨_, _, _, _, _, rfl⟩, Z ++ [(t8, mrgE (lotF G (unms G M)) e)], ?_, ?_, ?_, by rw [List.length_append, List.length_singleton]; omega⟩
        · rw [upd_same, List.map_append]
          rfl
        · refine smsAt_put (fun q hq => ?_) (s8 _ _ hZ)
          rcases List.mem_append.mp hq with hq | hq
          · exact s8 _ _ (hZs q hq)
          · rw [List.mem_singleton.mp hq]
            exact ht8
        · rw [List.map_append, hZm, ex, if_pos (by simpa using c), List.map_append]
          rfl
      · refine itN c ⟨s7, hsl7, hL7, ⟨_, _, _, _, _, rfl⟩, Z, hZ, hZs, ?_, by omega⟩
        rw [hZm, ex, if_neg (by simpa using c), List.append_nil]
    · rintro σ H7 ⟨s7, hsl7, hL7, ⟨v2, v5, v6, v7, v8, rfl⟩, Z, hZ, hZs, hZm, hZl⟩
      rw [List.length_map, show L.length = G.length by rw [← hG, List.length_map], List.take_length] at hZm
      rw [List.length_map] at hZl
      have s17 := s14.trans s7
      have hd7 := s7 _ _ hd4
      -- the knots of the merged plant
      refine ⟨_, rfl, p, dx, _, rfl, s17 _ _ h1, p, kn, G, rfl, hp.same s17, fun kl2 H8 s8 hk8 => ?_⟩
      have s18 := s17.trans s8
      have hkn := wf.klen
      refine ⟨kl2, rfl, ⟨_, sq hk8⟩, fun D9 nD9 => ?_⟩
      refine lc_all (walk_list (xs := kn.map V.str)) nD9 (by rw [List.length_map]; omega) (fun H' s' => s'.seq (sq hk8)) (fun i acc _ => acc = (kn.take i).map fun k => V.str (lotF G (unms G M) k)) rfl (fun _ _ _ _ _ h => h)
        (fun i acc _ h => by rw [h, List.length_map, List.length_take]; omega) ?_ ?_
      · rintro i v H9 H10 acc hi s9 ha rfl ⟨rfl, hv⟩ N kT
        obtain ⟨x, hx, rfl⟩ := strs_getElem hv
        refine ⟨rfl, _, rfl, _, rfl, d, _, rfl, kv_get (s9 _ _ (s8 _ _ hd7)) (List.mem_of_getElem? hx), kT _ _ (Same.refl _) ?_⟩
        rw [List.take_add_one, hx, List.map_append]
        rfl
      rintro H9 acc s9 ha9 rfl
      rw [List.length_map, List.take_length] at ha9
      have ha9' : H9 D9 = some (.lst ((kn.map (lotF G (unms G M))).map V.str)) := by rw [ha9, List.map_map]; rfl
      refine ⟨D9, kn.map (lotF G (unms G M)), rfl, sq ha9', by rw [List.length_map]; omega, fun st9 n9 nst9 hn9 => ?_⟩
      refine gen nst9 _ ?_
      intro H10 s10 hst
      have s8_10 := s8.trans (s9.trans s10)
      rw [List.length_map] at hn9
      refine ⟨st9, _, n9, rfl, hst, by omega, fun ys p11 _ ndy my _ np11 => ?_⟩
      have s11 : Same H10 (upd H10 p11 (.lst (ys.map V.str))) := same_upd np11
      generalize hH11 : upd H10 p11 (.lst (ys.map V.str)) = H11 at s11
      have hy : H11 p11 = some (.lst (ys.map V.str)) := by rw [← hH11, upd_same]
      have mem_y : ∀ k, k ∈ ys ↔ ∃ x ∈ kn, lotF G (unms G M) x = k := fun k => by rw [my k]; simp
      have s7_11 := s8_10.trans s11
      have wf' : Wf ys (Z.map (·.2)) := by
        have ysub : ∀ k ∈ ys, k ∈ kn := fun k hk => by
          obtain ⟨x, hx, rfl⟩ := (mem_y k).mp hk
          exact li.ins x hx
        refine ⟨fun z => ?_, Nat.le_trans (nodup_sub_len ndy ysub) wf.klen, ndy, fun k hk => wf.kok k (ysub k hk), by rw [List.length_map]; omega, ?_, fun e he => ?_⟩
        · cases hk : kn with
          | nil => exact wf.kne hk
          | cons k r =>
            have : lotF G (unms G M) k ∈ ys := (mem_y _).mpr ⟨k, by rw [hk]; exact List.mem_cons_self, rfl⟩
            rw [z] at this
            cases this
        · rw [hZm, List.map_map]
          exact wf.gnd.sublist (List.filter_sublist.map _)
        · rw [hZm] at he
          obtain ⟨e0, he0, rfl⟩ := List.mem_map.mp he
          obtain ⟨a1, a2, a3, a4⟩ := wf.gok e0 (List.mem_filter.mp he0).1
          exact ⟨a1, (mem_y _).mpr ⟨_, a2, rfl⟩, (mem_y _).mpr ⟨_, a3, rfl⟩, a4⟩
      refine ⟨_, rfl, fun x dx' nx ndx _ => ?_⟩
      have s12' : Same H11 (upd (upd H11 dx' (.own x)) x (.ins C dx' [])) := fun c o e => by
        rw [upd_ne (ne_of_none e nx), upd_ne (ne_of_none e ndx)]
        exact e
      refine ⟨x, dx', p11, S, ys, Z, rfl, upd_same, s12'.seq (sq hy), s12'.seq (sq (s7_11 _ _ hZ)), smsAt_same hZs (s7_11.trans s12'), wf', fun H13 kn' L' kp _ pl hP => ⟨rfl, ?_⟩⟩
      refine q x H13 kn' _ ((s17.trans s7_11).trans (Same.made nx ndx kp)) hP fun f => ?_
      unfold theW
      rw [← hZm]
      exact (pl.map (·.2)).mem_iff
end
end Msr
end
section
/-! least_ring, ring_length, found_up_to, mended_up_to. -/
namespace Msr
open PySem PySem.Spec PyProof.Rows L2 Ms MsLow
section
variable {P : Program} {w : World} {K : PySem.W.Frag} {mg : Str → Option Value} {base : Heap} {C : Addr}
/-- the least ring that begins with one of some streams -/
def LeastUp (W done : List (Sm Str)) : Option (List Str) → Prop
  | none => ∀ e ∈ done, ¬ Rch W (· ≠ e.nm) e.hd e.tl
  | some r => (∃ e ∈ W, ∃ rest, r = e.nm :: rest ∧ Wk W (· ≠ e.nm) rest e.hd e.tl ∧ rest.Nodup) ∧ ∀ f ∈ done, ∀ ns, Wk W (· ≠ f.nm) ns f.hd f.tl → r.length ≤ ns.length + 1
theorem LeastUp.all {W : List (Sm Str)} : ∀ {res : Option (List Str)}, LeastUp W W res → LeastOf W res
  | none, h => h
  | some _, h => h
/-- where the least ring stands -/
def ResAt (H : Hp) (v : V) : Option (List Str) → Prop
  | none => v = .non
  | some r => ∃ (l : Addr) (R : List (Addr × Str × Int)), v = .ref l ∧ H l = some (.lst (R.map fun q : Addr × Str × Int => V.ref q.1)) ∧ RingAt H R ∧ rnm R = r ∧ R.length ≤ 61
theorem ResAt.same {H H' : Hp} {v : V} : ∀ {res : Option (List Str)}, ResAt H v res → Same H H' → ResAt H' v res
  | none, h, _ => h
  | some r, ⟨l, R, h1, h2, h3, h4, h5⟩, s => ⟨l, R, h1, s _ _ h2, h3.same s, h4, h5⟩
theorem sc_least : FnScope ["plant", "metered", "web", "least", "name", "ring"] ["plant", "metered"] (defScope sLeast) := ⟨rfl, rfl, rfl, by decide +kernel, rfl, by decide +kernel, by decide +kernel⟩
theorem ok_least {f f1 f2 m1 : Addr} {fd fd1 fd2 md1 : FuncData} (F : Fun K "least_ring" "least_ring" sLeast f fd) (T : Txt K mg C) (C1 : Cal P w K mg base 5 "merged" ["plant", "metered"] (spMerged K C) f1 fd1)
    (C2 : Cal P w K mg base 5 "ring_through" ["plant", "names", "name"] (spRing K C) f2 fd2) (M1 : Met P w K mg base C 1 "stream_names" ["self"] (spNames C) m1 md1) : FnOk P w K mg base CX0 6 f fd ["plant", "metered"] (spLeast K C) := by
  refine F.ok sc_least (fun vs H Q E h => ?_) (fun cdv A outer s H vs Q E hr h => ?_)
  · obtain ⟨p, l, kn, G, M, rfl, _⟩ := h
    rfl
  · obtain ⟨p, l, kn, G, M, rfl, hp, hn, q1, q2⟩ := h
    have hr1 : Room 1 _ := hr.mono (by decide)
    refine ⟨_, pss_cons (ps_set (i := 2) sc_least.nd rfl (.inl rfl) (pe_call C1.ok hr rfl C1.mg_ C1.kp C1.bd .nil pass0 (pa_cons (pv 0) (pa_cons (pv 1) pa_nil))))
      (pss_cons (ps_set (i := 3) sc_least.nd rfl (.inl rfl) pe_non)
      (pss_cons (ps_for PassesOwn.never rfl (pi_list (pe_meth0 (pv 2) T.cl M1.mt M1.ok hr1 M1.bd .nil pass0)) (pg_name (i := 4) sc_least.nd rfl (Or.inl rfl))
        (pss_cons (ps_set (i := 5) sc_least.nd rfl (.inl rfl) (pe_call C2.ok hr rfl C2.mg_ C2.kp C2.bd .nil pass0 (pa_cons (pv 2) (pa_cons (pe_meth0 (pv 2) T.cl M1.mt M1.ok hr1 M1.bd .nil pass0) (pa_cons (pv 4) pa_nil)))))
        (pss_one (ps_if (PW.pt (pw_and (pt_cmpR op_notN (pv 5) pe_non (nomark _)) (pw_and1 (PW.pt (pw_or (pt_cmpR op_isN (pv 3) pe_non (nomark _)) (pw_or1 (pt_cmpR op_lt (pe_callB call_len_seq (by rfl) T.len PySem.boot_len (pa_cons (pv 5) pa_nil)) (pe_callB call_len_seq (by rfl) T.len PySem.boot_len (pa_cons (pv 3) pa_nil)) (nomark _))))))))
          (pss_one (ps_set (i := 3) sc_least.nd rfl (.inl rfl) (pv 5))) pss_nil))))
      (pss_one (ps_ret (pv 3))))), ?_⟩
    refine ⟨_, rfl, _, rfl, p, l, kn, G, M, rfl, hp, hn, fun web H1 kn' W s1 hw hW => ?_⟩
    have wf := hw.wf
    obtain ⟨dx, kl, sl, L0, h1, _⟩ := hw.at_
    refine ⟨_, rfl, web, dx, _, rfl, h1, pflds_no _ _ (by decide +kernel) (by decide +kernel), web, kn', W, rfl, hw, fun b H2 s2 hb => ?_⟩
    have hnl : (nms W).length ≤ 60 := by unfold nms; rw [List.length_map]; exact wf.glen
    refine ⟨b, rfl, ⟨_, sq hb⟩, for_list (K := K) (a := b) (xs := (nms W).map V.str) (fun i σ H' => Same H2 H' ∧ ∃ v3 v4 v5 res, σ = [some (.ref p), some (.ref l), some (.ref web), some v3, v4, v5] ∧ ResAt H' v3 res ∧ LeastUp W (W.take i) res)
      ⟨Same.refl _, .non, none, none, none, rfl, rfl, fun e he => by simp at he⟩ (fun i σ H' _ h => h.1.seq (sq hb)) ?_ ?_⟩
    · rintro i v σ H3 hv ⟨s3, v3, v4, v5, res, rfl, hres, hup⟩
      obtain ⟨x, hx, rfl⟩ := strs_getElem hv
      unfold nms at hx
      rw [List.getElem?_map] at hx
      obtain ⟨e, he, rfl⟩ := Option.map_eq_some_iff.mp hx
      have hem := List.mem_of_getElem? he
      have tk : W.take (i + 1) = W.take i ++ [e] := by rw [List.take_add_one, he]; rfl
      have s23 := s2.trans s3
      have hw3 := hw.same s23
      refine ⟨_, rfl, _, rfl, web, dx, _, rfl, s23 _ _ h1, pflds_no _ _ (by decide +kernel) (by decide +kernel), web, kn', W, rfl, hw3, fun b2 H4 s4 hb2 => ?_⟩
      refine ⟨_, rfl, web, b2, e, kn', W, nms W, rfl, hw3.same s4, ⟨sq hb2, wf.gnd, fun n h => h⟩, hem, ?_, ?_⟩
      · -- no ring
        intro H5 s5 nr
        refine ⟨_, rfl, rfl, false, rfl, iteF ⟨s3.trans (s4.trans s5), v3, _, _, res, rfl, hres.same (s4.trans s5), ?_⟩⟩
        have no : ¬ Rch W (· ≠ e.nm) e.hd e.tl := fun ⟨ns, wk⟩ => nr ⟨ns, wk.mono fun n hn h => ⟨(by obtain ⟨f, hf, rfl⟩ := wk.named n hn; exact List.mem_map.mpr ⟨f, hf, rfl⟩), h⟩⟩
        rw [tk]
        cases res with
        | none =>
          intro f hf
          rcases List.mem_append.mp hf with hf | hf
          · exact hup f hf
          · rw [List.mem_singleton.mp hf]; exact no
        | some r =>
          refine ⟨hup.1, fun f hf ns wk => ?_⟩
          rcases List.mem_append.mp hf with hf | hf
          · exact hup.2 f hf ns wk
          · rw [List.mem_singleton.mp hf] at wk
            exact absurd ⟨ns, wk⟩ no
      · -- a ring
        intro rl H5 R rest s5 hrl hR hrn hrest ro
        have wk : Wk W (· ≠ e.nm) rest e.hd e.tl := ro.wk.mono fun n _ h => h.2
        have mn : ∀ ns, Wk W (· ≠ e.nm) ns e.hd e.tl → rest.length ≤ ns.length := fun ns wk => ro.mn ns (wk.mono fun n hn h => ⟨(by obtain ⟨f, hf, rfl⟩ := wk.named n hn; exact List.mem_map.mpr ⟨f, hf, rfl⟩), h⟩)
        have lR : R.length = rest.length + 1 := by
          have := congrArg List.length hrn
          unfold rnm at this
          rw [List.length_map, List.length_cons] at this
          exact this
        have new : ResAt H5 (.ref rl) (some (e.nm :: rest)) := ⟨rl, R, rfl, hrl, hR, hrn, by omega⟩
        refine ⟨_, rfl, rfl, true, rfl, iteT ?_⟩
        cases res with
        | none =>
          obtain rfl : v3 = .non := hres
          refine ⟨_, rfl, rfl, true, rfl, iteT ?_⟩
          refine ⟨_, rfl, s3.trans (s4.trans s5), _, _, _, some (e.nm :: rest), rfl, new, ?_⟩
          rw [tk]
          refine ⟨⟨e, hem, rest, rfl, wk, ro.nd⟩, fun f hf ns wk' => ?_⟩
          rcases List.mem_append.mp hf with hf | hf
          · exact absurd ⟨ns, wk'⟩ (hup f hf)
          · rw [List.mem_singleton.mp hf] at wk'
            have := mn ns wk'
            rw [List.length_cons]
            omega
        | some r =>
          obtain ⟨l0, R0, rfl, h0, hR0, hrn0, hl0⟩ := id hres
          have h05 := s5 _ _ (s4 _ _ h0)
          refine ⟨_, rfl, rfl, false, rfl, iteF ?_⟩
          refine ⟨_, rfl, rl, _, rfl, .inl (sq hrl), _, rfl, l0, _, rfl, .inl (sq h05), _, _, rfl, rfl, _, rfl, ?_⟩
          rw [List.length_map, List.length_map]
          have lr0 : R0.length = r.length := by rw [← hrn0]; unfold rnm; rw [List.length_map]
          by_cases c : R.length < R0.length
          · refine itD (by omega) ?_
            refine ⟨_, rfl, s3.trans (s4.trans s5), _, _, _, some (e.nm :: rest), rfl, new, ?_⟩
            rw [tk]
            refine ⟨⟨e, hem, rest, rfl, wk, ro.nd⟩, fun f hf ns wk' => ?_⟩
            rw [List.length_cons]
            rcases List.mem_append.mp hf with hf | hf
            · have := hup.2 f hf ns wk'
              omega
            · rw [List.mem_singleton.mp hf] at wk'
              have := mn ns wk'
              omega
          · refine itN (by omega) ?_
            refine ⟨s3.trans (s4.trans s5), _, _, _, some r, rfl, hres.same (s4.trans s5), ?_⟩
            rw [tk]
            refine ⟨hup.1, fun f hf ns wk' => ?_⟩
            rcases List.mem_append.mp hf with hf | hf
            · exact hup.2 f hf ns wk'
            · rw [List.mem_singleton.mp hf] at wk'
              have := mn ns wk'
              omega
    · rintro σ H3 ⟨s3, v3, v4, v5, res, rfl, hres, hup⟩
      rw [List.length_map, show (nms W).length = W.length by unfold nms; rw [List.length_map], List.take_length] at hup
      have lst := least_mem hW hup.all
      have sx := s1.trans (s2.trans s3)
      refine ⟨_, rfl, ?_⟩
      cases res with
      | none =>
        obtain rfl : v3 = .non := hres
        exact q1 H3 sx lst
      | some r =>
        obtain ⟨l0, R0, rfl, h0, hR0, rfl, hl0⟩ := hres
        exact q2 l0 H3 R0 sx h0 hR0 lst hl0
/-! ### lengths -/
theorem sc_length : FnScope ["plant", "metered", "ring"] ["plant", "metered"] (defScope sLength) := ⟨rfl, rfl, rfl, by decide +kernel, rfl, by decide +kernel, by decide +kernel⟩
theorem ok_length {f f1 : Addr} {fd fd1 : FuncData} (F : Fun K "ring_length" "ring_length" sLength f fd) (T : Txt K mg C) (C1 : Cal P w K mg base 6 "least_ring" ["plant", "metered"] (spLeast K C) f1 fd1) :
    FnOk P w K mg base CX0 7 f fd ["plant", "metered"] (spLen K C fun n => (n : Int)) := by
  refine F.ok sc_length (fun vs H Q E h => ?_) (fun cdv A outer s H vs Q E hr h => ?_)
  · obtain ⟨p, l, kn, G, M, rfl, _⟩ := h
    rfl
  · obtain ⟨p, l, kn, G, M, rfl, hp, hn, q⟩ := h
    refine ⟨_, pss_cons (ps_set (i := 2) sc_length.nd rfl (.inl rfl) (pe_call C1.ok hr rfl C1.mg_ C1.kp C1.bd .nil pass0 (pa_cons (pv 0) (pa_cons (pv 1) pa_nil))))
      (pss_one (ps_ret (pe_ifExp (pt_cmpR op_isN (pv 2) pe_non (nomark _)) pe_non (pe_callB call_len_seq (by rfl) T.len PySem.boot_len (pa_cons (pv 2) pa_nil))))), ?_⟩
    refine ⟨_, rfl, _, rfl, p, l, kn, G, M, rfl, hp, hn, fun H1 s1 lst => ?_, fun r H1 R s1 hr1 _ lst _ => ?_⟩
    · exact ⟨_, rfl, rfl, true, rfl, iteT (q H1 none s1 lst)⟩
    · refine ⟨_, rfl, rfl, false, rfl, iteF ⟨_, rfl, r, _, rfl, .inl (sq hr1), ?_⟩⟩
      have := q H1 _ s1 lst
      have this : Q (.int ((rnm R).length : Int)) H1 := this
      unfold rnm at this
      rw [List.length_map] at this
      rw [List.length_map]
      exact this
theorem sc_found : FnScope ["plant", "metered", "length"] ["plant", "metered"] (defScope sFound) := ⟨rfl, rfl, rfl, by decide +kernel, rfl, by decide +kernel, by decide +kernel⟩
theorem ok_found {f f1 : Addr} {fd fd1 : FuncData} (F : Fun K "found_up_to" "found_up_to" sFound f fd) (T : Txt K mg C) (C1 : Cal P w K mg base 7 "ring_length" ["plant", "metered"] (spLen K C fun n => (n : Int)) f1 fd1) :
    FnOk P w K mg base CX0 8 f fd ["plant", "metered"] (spLen K C fun n => (n : Int) - 1) := by
  refine F.ok sc_found (fun vs H Q E h => ?_) (fun cdv A outer s H vs Q E hr h => ?_)
  · obtain ⟨p, l, kn, G, M, rfl, _⟩ := h
    rfl
  · obtain ⟨p, l, kn, G, M, rfl, hp, hn, q⟩ := h
    refine ⟨_, pss_cons (ps_set (i := 2) sc_found.nd rfl (.inl rfl) (pe_call C1.ok hr rfl C1.mg_ C1.kp C1.bd .nil pass0 (pa_cons (pv 0) (pa_cons (pv 1) pa_nil))))
      (pss_one (ps_ret (pe_ifExp (pt_cmpR op_isN (pv 2) pe_non (nomark _)) pe_non (pe_op op_sub (pv 2) pe_int)))), ?_⟩
    refine ⟨_, rfl, _, rfl, p, l, kn, G, M, rfl, hp, hn, fun H1 res s1 lst => ?_⟩
    have := q H1 res s1 lst
    cases res with
    | none => exact ⟨_, rfl, rfl, true, rfl, iteT this⟩
    | some r => exact ⟨_, rfl, rfl, false, rfl, iteF ⟨_, rfl, _, _, rfl, rfl, this⟩⟩
theorem sc_mended : FnScope ["plant", "metered", "length"] ["plant", "metered"] (defScope sMended) := ⟨rfl, rfl, rfl, by decide +kernel, rfl, by decide +kernel, by decide +kernel⟩
theorem ok_mended {f f1 : Addr} {fd fd1 : FuncData} (F : Fun K "mended_up_to" "mended_up_to" sMended f fd) (T : Txt K mg C) (C1 : Cal P w K mg base 7 "ring_length" ["plant", "metered"] (spLen K C fun n => (n : Int)) f1 fd1) :
    FnOk P w K mg base CX0 8 f fd ["plant", "metered"] (spLen K C fun n => ((n : Int) - 1) / 2) := by
  refine F.ok sc_mended (fun vs H Q E h => ?_) (fun cdv A outer s H vs Q E hr h => ?_)
  · obtain ⟨p, l, kn, G, M, rfl, _⟩ := h
    rfl
  · obtain ⟨p, l, kn, G, M, rfl, hp, hn, q⟩ := h
    refine ⟨_, pss_cons (ps_set (i := 2) sc_mended.nd rfl (.inl rfl) (pe_call C1.ok hr rfl C1.mg_ C1.kp C1.bd .nil pass0 (pa_cons (pv 0) (pa_cons (pv 1) pa_nil))))
      (pss_one (ps_ret (pe_ifExp (pt_cmpR op_isN (pv 2) pe_non (nomark _)) pe_non (pe_op op_fdiv (pe_op op_sub (pv 2) pe_int) pe_int)))), ?_⟩
    refine ⟨_, rfl, _, rfl, p, l, kn, G, M, rfl, hp, hn, fun H1 res s1 lst => ?_⟩
    have := q H1 res s1 lst
    cases res with
    | none => exact ⟨_, rfl, rfl, true, rfl, iteT this⟩
    | some r => exact ⟨_, rfl, rfl, false, rfl, iteF ⟨_, rfl, _, _, rfl, rfl, _, _, rfl, rfl, ⟨by decide, by decide⟩, this⟩⟩
end
end Msr
end
section
/-! The law's own numbers. -/
namespace Msr
open PySem PySem.Spec PyProof.Rows L2 Ms MsLow
section
variable {P : Program} {w : World} {K : PySem.W.Frag} {mg : Str → Option Value} {base : Heap} {C : Addr}
theorem m1009 (n : Int) : 0 ≤ n % 1009 ∧ n % 1009 < 1009 := ⟨Int.emod_nonneg _ (by decide), Int.emod_lt_of_pos _ (by decide)⟩
theorem ints_getElem {L : List Int} {i : Nat} {v : V} (h : (L.map V.int)[i]? = some v) : ∃ x, L[i]? = some x ∧ v = .int x := by
  rw [List.getElem?_map] at h
  obtain ⟨q, hq, rfl⟩ := Option.map_eq_some_iff.mp h
  exact ⟨q, hq, rfl⟩
theorem sz5000 {n : Nat} (h : n ≤ 5000) : n < sizeLine := Nat.lt_of_le_of_lt h (by decide)
/-! ### _law_row -/
theorem sc_row : FnScope ["_law_cell", "_law_many", "_law_row_here", "_law_rest", "_law_state", "_law_k"] ["_law_cell", "_law_many"] (defScope sRow) := ⟨rfl, rfl, rfl, by decide +kernel, rfl, by decide +kernel, by decide +kernel⟩
theorem ok_row {f : Addr} {fd : FuncData} (F : Fun K "_law_row" "_law_row" sRow f fd) (T : Txt K mg C) : FnOk P w K mg base CX0 1 f fd ["_law_cell", "_law_many"] spRow := by
  refine F.ok sc_row (fun vs H Q E h => ?_) (fun cdv A outer s H vs Q E hr h => ?_)
  · obtain ⟨c, m, rfl, _⟩ := h
    rfl
  · obtain ⟨c, m, rfl, hm0, hm1, q⟩ := h
    refine ⟨_, pss_cons (ps_set (i := 2) sc_row.nd rfl (.inl rfl) (pe_lst pa_nil))
      (pss_cons (ps_set (i := 3) sc_row.nd rfl (.inl rfl) pe_int)
      (pss_cons (ps_if (pt_cmpR op_ge (pe_callB call_abs (by rfl) T.abs (by decide +kernel) (pa_cons (pv 0) pa_nil)) (pe_op op_pow pe_int pe_int) (nomark _))
        (pss_one (ps_set (i := 3) sc_row.nd rfl (.inl rfl) (pe_callB call_abs (by rfl) T.abs (by decide +kernel) (pa_cons (pv 0) pa_nil)))) pss_nil)
      (pss_cons (ps_set (i := 4) sc_row.nd rfl (.inl rfl) (pe_op op_mod (pe_callTy call_int1 (by rfl) T.int (by decide +kernel) (pa_cons (pe_callB call_abs (by rfl) T.abs (by decide +kernel) (pa_cons (pv 0) pa_nil)) pa_nil)) pe_int))
      (pss_cons (ps_for PassesOwn.never rfl (pi_range1 rfl T.range (pa_cons (pv 1) pa_nil)) (pg_name (i := 5) sc_row.nd rfl (Or.inl rfl))
        (pss_cons (ps_set (i := 4) sc_row.nd rfl (.inl rfl) (pe_op op_mod (pe_callTy call_int1 (by rfl) T.int (by decide +kernel) (pa_cons (pe_op op_add (pe_op op_mul (pe_op op_add (pv 4) pe_int) pe_int) (pe_op op_mul pe_int (pv 5))) pa_nil)) pe_int))
        (pss_one (ps_if (pt_cmpR op_gt (pv 3) pe_int (nomark _))
          (pss_cons (ps_expr (pe_bm PySem.F.plainAttrs_list PySem.F.slot_list_append PySem.F.type_list_append mt_append (pv 2) (pa_cons (pe_op op_mod (pe_callTy call_int1 (by rfl) T.int (by decide +kernel) (pa_cons (pv 3) pa_nil)) pe_int) pa_nil)))
          (pss_one (ps_set (i := 3) sc_row.nd rfl (.inl rfl) (pe_op op_fdiv (pv 3) pe_int))))
          (pss_one (ps_expr (pe_bm PySem.F.plainAttrs_list PySem.F.slot_list_append PySem.F.type_list_append mt_append (pv 2) (pa_cons (pe_op op_mod (pe_callTy call_int1 (by rfl) T.int (by decide +kernel) (pa_cons (pe_op op_fdiv (pv 4) pe_int) pa_nil)) pe_int) pa_nil))))))))
      (pss_one (ps_ret (pv 2))))))), ?_⟩
    refine ⟨by show 0 ≤ sizeLine; decide, fun D nD => ?_⟩
    refine gen nD _ ?_
    intro H0 s0 hD0
    refine ⟨_, rfl, c, rfl, 10, 18, rfl, rfl, ⟨by decide, by decide, by decide⟩, _, _, rfl, rfl, _, rfl, ite2 (fun hc => ⟨_, rfl, c, rfl, ?_⟩) (fun hc => ?_)⟩
    all_goals
      refine ⟨_, rfl, c, rfl, .inl ⟨_, rfl, _, _, rfl, rfl, by show (0 : Int) < 2147483647; decide, ?_⟩⟩
      refine ⟨_, rfl, m, rfl, by omega, by omega, for_range (lo := 0) (n := m.toNat) (fun i σ H' => Same H H' ∧ ∃ (xs : List Int) (r st : Int) (v5 : Option V), σ = [some (.int c), some (.int m), some (.ref D), some (.int r), some (.int st), v5] ∧ H' D = some (.lst (xs.map V.int)) ∧ xs.length = i ∧ ∀ x ∈ xs, 0 ≤ x ∧ x < 1009)
        ⟨s0, [], _, _, none, rfl, hD0, rfl, fun x hx => by cases hx⟩ ?_ ?_⟩
      · rintro i σ H1 hi ⟨s1, xs, r, st, v5, rfl, hD, hl, hx⟩
        refine ⟨_, rfl, _, _, rfl, rfl, _, _, rfl, rfl, .inr ⟨by decide, by decide⟩, _, rfl, _, _, rfl, rfl, .inl ⟨by decide, by decide⟩, _, _, rfl, rfl, .inl ⟨_, rfl, _, _, rfl, rfl, by show (0 : Int) < 2147483647; decide, ?_⟩⟩
        have put : ∀ y : Int, Same H (upd H1 D (.lst (xs.map V.int ++ [V.int (y % 1009)]))) ∧ (upd H1 D (.lst (xs.map V.int ++ [V.int (y % 1009)]))) D = some (.lst ((xs ++ [y % 1009]).map V.int)) ∧ (xs ++ [y % 1009]).length = i + 1 ∧ ∀ x ∈ xs ++ [y % 1009], 0 ≤ x ∧ x < 1009 := fun y => by
          refine ⟨same_at s1 nD, ?_, by rw [List.length_append, hl]; rfl, fun x hx' => ?_⟩
          · rw [upd_same, List.map_append]
            rfl
          · rcases List.mem_append.mp hx' with h | h
            · exact hx x h
            · rw [List.mem_singleton.mp h]
              exact m1009 y
        have szx : (xs.map V.int).length < sizeLine := small1000 (by rw [List.length_map]; omega)
        refine ⟨_, rfl, _, _, rfl, rfl, _, rfl, ite2 (fun h2 => ?_) (fun h2 => ?_)⟩
        · refine ⟨.ref D, rfl, .inl ⟨rfl, _, sq hD⟩, _, rfl, .inl ⟨_, rfl, _, _, rfl, rfl, by show (0 : Int) < 1009; decide, D, _, _, rfl, rfl, hD, szx, ?_⟩⟩
          refine ⟨_, rfl, _, _, rfl, rfl, ⟨by decide, by decide⟩, ?_⟩
          exact ⟨(put r).1, _, _, _, _, rfl, (put r).2⟩
        · refine ⟨.ref D, rfl, .inl ⟨rfl, _, sq hD⟩, _, rfl, _, _, rfl, rfl, ⟨by decide, by decide⟩, .inl ⟨_, rfl, _, _, rfl, rfl, by show (0 : Int) < 1009; decide, D, _, _, rfl, rfl, hD, szx, ?_⟩⟩
          exact ⟨(put _).1, _, _, _, _, rfl, (put _).2⟩
      · rintro σ H1 ⟨s1, xs, r, st, v5, rfl, hD, hl, hx⟩
        exact ⟨_, rfl, q D H1 xs nD s1 hD (by omega) hx⟩
/-! ### _law_numbers -/
theorem cut_to (xs : List V) (n : Nat) : cutV xs none (some (n : Int)) = xs.take n := by
  unfold cutV
  rw [show HT.sIx xs.length xs.length (some (n : Int)) = min n xs.length from HT.sIx_nat xs.length xs.length n, HT.sIx_none, List.drop_zero, Nat.sub_zero]
  rw [Nat.min_def]
  split
  · rfl
  · rw [List.take_length, List.take_of_length_le (by omega)]
theorem sc_numbers : FnScope ["_law_script", "_law_many", "_law_cells", "_law_each", "_law_numbers_here", "_law_cell", "_law_number"] ["_law_script", "_law_many"] (defScope sNumbers) := ⟨rfl, rfl, rfl, by decide +kernel, rfl, by decide +kernel, by decide +kernel⟩
theorem ok_numbers {f f1 : Addr} {fd fd1 : FuncData} (F : Fun K "_law_numbers" "_law_numbers" sNumbers f fd) (T : Txt K mg C) (C1 : Cal P w K mg base 1 "_law_row" ["_law_cell", "_law_many"] spRow f1 fd1) :
    FnOk P w K mg base CX0 2 f fd ["_law_script", "_law_many"] (spNumbers K) := by
  refine F.ok sc_numbers (fun vs H Q E h => ?_) (fun cdv A outer s H vs Q E hr h => ?_)
  · obtain ⟨a, ns, rfl, _⟩ := h
    rfl
  · obtain ⟨a, ns, rfl, ha, hlen, q⟩ := h
    refine ⟨_, pss_cons (ps_set (i := 2) sc_numbers.nd rfl (.inl rfl) (pe_slice sl_list (pv 0) po_none (po_some pe_int)))
      (pss_cons (ps_set (i := 3) sc_numbers.nd rfl (.inl rfl) (pe_op op_add pe_int (pe_op op_fdivN (pv 1) (pe_callB (call_max2 rfl) (by rfl) T.max (by decide +kernel) (pa_cons pe_int (pa_cons (pe_callB call_len_seq (by rfl) T.len PySem.boot_len (pa_cons (pv 2) pa_nil)) pa_nil))))))
      (pss_cons (ps_set (i := 4) sc_numbers.nd rfl (.inl rfl) (pe_lst pa_nil))
      (pss_cons (ps_for PassesOwn.never rfl (pi_list (pv 2)) (pg_name (i := 5) sc_numbers.nd rfl (Or.inl rfl))
        (pss_one (ps_for PassesOwn.never rfl (pi_list (pe_call C1.ok hr rfl C1.mg_ C1.kp C1.bd .nil pass0 (pa_cons (pv 5) (pa_cons (pv 3) pa_nil)))) (pg_name (i := 6) sc_numbers.nd rfl (Or.inl rfl))
          (pss_one (ps_expr (pe_bm PySem.F.plainAttrs_list PySem.F.slot_list_append PySem.F.type_list_append mt_append (pv 4) (pa_cons (pv 6) pa_nil)))))))
      (pss_cons (ps_while PassesOwn.never (pt_cmpR op_lt (pe_callB call_len_seq (by rfl) T.len PySem.boot_len (pa_cons (pv 4) pa_nil)) (pv 1) (nomark _))
        (pss_one (ps_expr (pe_bm PySem.F.plainAttrs_list PySem.F.slot_list_append PySem.F.type_list_append mt_append (pv 4) (pa_cons pe_int pa_nil)))))
      (pss_one (ps_ret (pe_slice sl_list (pv 4) po_none (po_some (pv 1))))))))), ?_⟩
    -- the cells
    refine ⟨_, rfl, 63, rfl, a, _, rfl, ha, fun cl ncl => ?_⟩
    rw [show cutV (ns.map V.int) none (some 63) = ns.map V.int from (cut_to (ns.map V.int) 63).trans (List.take_of_length_le (by rw [List.length_map]; exact hlen))]
    refine gen ncl _ ?_
    intro H1 s1 hcl
    -- each
    refine ⟨_, rfl, _, rfl, cl, _, rfl, .inl (sq hcl), 1, _, rfl, 50, _, rfl, rfl, ?_, 1, _, rfl, rfl, ?_⟩
    · rw [List.length_map]
      constructor
      · split <;> omega
      · split <;> omega
    rw [List.length_map]
    have each : ∃ m : Int, 1 + Int.fdiv 50 (if (ns.length : Int) > 1 then (ns.length : Int) else 1) = m ∧ 0 ≤ m ∧ m ≤ 51 := by
      refine ⟨_, rfl, ?_⟩
      rw [Int.fdiv_eq_ediv_of_nonneg _ (by split <;> omega)]
      have h1 : (0 : Int) ≤ 50 / (if (ns.length : Int) > 1 then (ns.length : Int) else 1) := Int.ediv_nonneg (by decide) (by split <;> omega)
      have h2 : (50 : Int) / (if (ns.length : Int) > 1 then (ns.length : Int) else 1) ≤ 50 := Int.ediv_le_self _ (by decide)
      omega
    obtain ⟨m, em, hm0, hm1⟩ := each
    dsimp only
    rw [em]
    -- the numbers
    refine ⟨by show 0 ≤ sizeLine; decide, fun D nD => ?_⟩
    have nD0 := s1.free nD
    refine gen nD _ ?_
    intro H2 s2 hD2
    have ncD : cl ≠ D := ne_of_none hcl nD
    refine ⟨_, rfl, cl, rfl, ⟨_, sq (s2 _ _ hcl)⟩, for_list (K := K) (a := cl) (xs := ns.map V.int) (fun i σ H' => Same H H' ∧ H' cl = some (.lst (ns.map V.int)) ∧ ∃ (xs : List Int) (v5 v6 : Option V), σ = [some (.ref a), some (.int 50), some (.ref cl), some (.int m), some (.ref D), v5, v6] ∧ H' D = some (.lst (xs.map V.int)) ∧ xs.length ≤ 51 * i ∧ ∀ x ∈ xs, 0 ≤ x ∧ x < 1009)
      ⟨s1.trans s2, s2 _ _ hcl, [], none, none, rfl, hD2, Nat.le_refl _, fun x hx => by cases hx⟩ (fun i σ H' _ h => sq h.2.1) ?_ ?_⟩
    · rintro i v σ H3 hv ⟨s3, hcl3, xs, v5, v6, rfl, hD3, hl, hx⟩
      have hil : i < ns.length := by
        have := (List.getElem?_eq_some_iff.mp hv).1
        rw [List.length_map] at this
        exact this
      obtain ⟨c, hc, rfl⟩ := ints_getElem hv
      refine ⟨_, rfl, _, rfl, c, m, rfl, hm0, by omega, fun r H4 ys nr s4 hr4 hyl hyx => ?_⟩
      have nrD : r ≠ D := (ne_of_none hD3 nr).symm
      refine ⟨r, rfl, ⟨_, sq hr4⟩, for_list (K := K) (a := r) (xs := ys.map V.int) (fun j σ H' => Same H H' ∧ H' cl = some (.lst (ns.map V.int)) ∧ H' r = some (.lst (ys.map V.int)) ∧ ∃ (xs : List Int) (v6 : Option V), σ = [some (.ref a), some (.int 50), some (.ref cl), some (.int m), some (.ref D), some (.int c), v6] ∧ H' D = some (.lst (xs.map V.int)) ∧ xs.length ≤ 51 * i + j ∧ ∀ x ∈ xs, 0 ≤ x ∧ x < 1009)
        ⟨s3.trans s4, s4 _ _ hcl3, hr4, xs, _, rfl, s4 _ _ hD3, hl, hx⟩ (fun i σ H' _ h => sq h.2.2.1) ?_ ?_⟩
      · rintro j v σ H5 hv ⟨s5, hcl5, hr5, xs, v6, rfl, hD5, hl, hx⟩
        have hjl : j < ys.length := by
          have := (List.getElem?_eq_some_iff.mp hv).1
          rw [List.length_map] at this
          exact this
        obtain ⟨y, hy, rfl⟩ := ints_getElem hv
        refine ⟨.ref D, rfl, .inl ⟨rfl, _, sq hD5⟩, _, rfl, D, _, _, rfl, rfl, hD5, sz5000 (by rw [List.length_map]; omega), ?_⟩
        refine ⟨same_at s5 nD0, by rw [upd_ne ncD]; exact hcl5, by rw [upd_ne nrD]; exact hr5, xs ++ [y], _, rfl, by rw [upd_same, List.map_append]; rfl, by rw [List.length_append, List.length_singleton]; omega, fun x hx' => ?_⟩
        rcases List.mem_append.mp hx' with h | h
        · exact hx x h
        · rw [List.mem_singleton.mp h]
          exact hyx y (List.mem_of_getElem? hy)
      · rintro σ H5 ⟨s5, hcl5, hr5, xs, v6, rfl, hD5, hl, hx⟩
        rw [List.length_map] at hl
        exact ⟨s5, hcl5, xs, _, _, rfl, hD5, by omega, hx⟩
    · rintro σ H3 ⟨s3, hcl3, xs, v5, v6, rfl, hD3, hl, hx⟩
      rw [List.length_map] at hl
      -- while
      refine ⟨fun k σ H' => ∃ xs : List Int, k = 50 - xs.length ∧ σ = [some (.ref a), some (.int 50), some (.ref cl), some (.int m), some (.ref D), v5, v6] ∧ Same H H' ∧ H' D = some (.lst (xs.map V.int)) ∧ xs.length ≤ 5000 ∧ ∀ x ∈ xs, 0 ≤ x ∧ x < 1009,
        ⟨_, xs, rfl, rfl, s3, hD3, by omega, hx⟩, ?_⟩
      rintro k σ H4 ⟨xs, rfl, rfl, s4, hD4, hl4, hx4⟩
      refine ⟨_, rfl, D, _, rfl, .inl (sq hD4), _, rfl, _, _, rfl, rfl, _, rfl, ?_⟩
      rw [List.length_map]
      by_cases c : xs.length < 50
      · refine itD (by omega) ⟨fun σ' H' => ∃ xs' : List Int, 50 - xs'.length < 50 - xs.length ∧ σ' = [some (.ref a), some (.int 50), some (.ref cl), some (.int m), some (.ref D), v5, v6] ∧ Same H H' ∧ H' D = some (.lst (xs'.map V.int)) ∧ xs'.length ≤ 5000 ∧ ∀ x ∈ xs', 0 ≤ x ∧ x < 1009, fun σ' H' h => ?_, ?_⟩
        · obtain ⟨xs', h1, h2⟩ := h
          exact ⟨_, h1, xs', rfl, h2⟩
        · refine ⟨.ref D, rfl, .inl ⟨rfl, _, sq hD4⟩, D, _, _, rfl, rfl, hD4, sz5000 (by rw [List.length_map]; omega), ?_⟩
          refine ⟨xs ++ [0], by rw [List.length_append, List.length_singleton]; omega, rfl, same_at s4 nD0, by rw [upd_same, List.map_append]; rfl, by rw [List.length_append, List.length_singleton]; omega, fun x hx' => ?_⟩
          rcases List.mem_append.mp hx' with h | h
          · exact hx4 x h
          · rw [List.mem_singleton.mp h]
            exact ⟨by decide, by decide⟩
      · refine itN (by omega) ?_
        refine ⟨_, rfl, _, rfl, 50, rfl, D, _, rfl, sq hD4, fun r nr => ?_⟩
        rw [show cutV (xs.map V.int) none (some 50) = (xs.take 50).map V.int from (cut_to (xs.map V.int) 50).trans (List.map_take ..).symm]
        exact q r _ (xs.take 50) (s4.trans (same_upd nr)) upd_same (by rw [List.length_take]; omega) fun x hx => hx4 x (List.mem_of_mem_take hx)
/-! ### _law_is_at_least -/
theorem sc_atleast : FnScope ["_law_told", "_law_many"] ["_law_told", "_law_many"] (defScope sAtLeast) := ⟨rfl, rfl, rfl, by decide +kernel, rfl, by decide +kernel, by decide +kernel⟩
theorem ok_atleast {f : Addr} {fd : FuncData} (F : Fun K "_law_is_at_least" "_law_is_at_least" sAtLeast f fd) : FnOk P w K mg base CX0 1 f fd ["_law_told", "_law_many"] spAtLeast := by
  refine F.ok sc_atleast (fun vs H Q E h => ?_) (fun cdv A outer s H vs Q E hr h => ?_)
  · obtain ⟨v, k, rfl, _⟩ := h
    rfl
  · obtain ⟨v, k, rfl, h⟩ := h
    refine ⟨_, pss_one (ps_ret (pe_or (pe_cmpR op_isN (pv 0) pe_non (nomark _)) (pe_one (pe_cmpR op_ge (pv 0) (pv 1) (nomark _))))), ?_⟩
    rcases h with ⟨rfl, q⟩ | ⟨n, rfl, q⟩
    · exact ⟨_, rfl, rfl, true, rfl, iteT q⟩
    · exact ⟨_, rfl, rfl, false, rfl, iteF ⟨_, rfl, _, rfl, _, _, rfl, rfl, q⟩⟩
end
end Msr
end
section
/-! The law's own plant. -/
namespace Msr
open PySem PySem.Spec PyProof.Rows L2 Ms MsLow
/-! ### the menus -/
def menuL : List Str := ["m", "a7", "out", "zz", "b", "0", "q1", "k"]
def namesL : List Str := ["f", "a", "x9", "b", "k", "2", "zz", "d", "m1", "c", "y", "h8"]
theorem menu_ok : ∀ x ∈ menuL, 1 ≤ x.length ∧ x.length ≤ 12 ∧ ∀ c ∈ x.cps.toList, c ∈ letters.cps.toList := by decide +kernel
theorem names_ok : ∀ x ∈ namesL, 1 ≤ x.length ∧ x.length ≤ 12 ∧ ∀ c ∈ x.cps.toList, c ∈ letters.cps.toList := by decide +kernel
theorem menu_nd : menuL.Nodup := by decide +kernel
theorem names_nd : namesL.Nodup := by decide +kernel
def pickL (L : List Str) (n : Nat) : Str := L.getD n Str.empty
theorem pickL_at {L : List Str} {n : Nat} (h : n < L.length) : (L.map V.str)[n]? = some (.str (pickL L n)) := by
  unfold pickL
  rw [List.getElem?_map, List.getElem?_eq_getElem h, List.getD_eq_getElem?_getD, List.getElem?_eq_getElem h]
  rfl
theorem pickL_mem {L : List Str} {n : Nat} (h : n < L.length) : pickL L n ∈ L := by
  unfold pickL
  rw [List.getD_eq_getElem?_getD, List.getElem?_eq_getElem h]
  exact List.getElem_mem h
theorem pickL_inj {L : List Str} (nd : L.Nodup) {i j : Nat} (hi : i < L.length) (hj : j < L.length) (h : pickL L i = pickL L j) : i = j := by
  unfold pickL at h
  rw [List.getD_eq_getElem?_getD, List.getD_eq_getElem?_getD, List.getElem?_eq_getElem hi, List.getElem?_eq_getElem hj] at h
  exact (List.getElem_inj nd).mp h
theorem nodup_range {f : Nat → Str} {m : Nat} (h : ∀ i j, i < j → j < m → f i ≠ f j) : ((List.range m).map f).Nodup := by
  refine List.pairwise_map.mpr ?_
  refine List.Pairwise.imp_of_mem ?_ (List.pairwise_lt_range (n := m))
  intro a b _ hb hab
  exact h a b hab (List.mem_range.mp hb)
/-- the drawn knots -/
def lotsK (m c : Nat) : List Str := (List.range m).map fun k => pickL menuL ((k + c) % 8)
theorem lotsK_nd {m c : Nat} (h : m ≤ 6) : (lotsK m c).Nodup := nodup_range fun i j hij hj e => by
  have := pickL_inj menu_nd (show (i + c) % 8 < 8 by omega) (show (j + c) % 8 < 8 by omega) e
  omega
theorem lotsK_len {m c : Nat} : (lotsK m c).length = m := by unfold lotsK; rw [List.length_map, List.length_range]
theorem lotsK_ok {m c : Nat} : ∀ k ∈ lotsK m c, NameOk k := fun k hk => by
  obtain ⟨i, _, rfl⟩ := List.mem_map.mp hk
  exact menu_ok _ (pickL_mem (show (i + c) % 8 < 8 by omega))
theorem lotsK_at {m c j : Nat} (h : j < m) : ∃ x, ((lotsK m c).map V.str)[j]? = some (.str x) ∧ x ∈ lotsK m c := by
  have hl : j < (lotsK m c).length := by rw [lotsK_len]; exact h
  exact ⟨_, by rw [List.getElem?_map, List.getElem?_eq_getElem hl]; rfl, List.getElem_mem hl⟩
/-- the drawn names of streams -/
def nmK (c k : Nat) : Str := pickL namesL ((5 * k + c) % 12)
theorem nmK_ne {c i j : Nat} (h : i < j) (hj : j < 9) : nmK c i ≠ nmK c j := fun e => by
  have := pickL_inj names_nd (show (5 * i + c) % 12 < 12 by omega) (show (5 * j + c) % 12 < 12 by omega) e
  omega
theorem nmK_ok (c k : Nat) : NameOk (nmK c k) := names_ok _ (pickL_mem (show (5 * k + c) % 12 < 12 by omega))
theorem fm (n m : Nat) : Int.fmod (n : Int) (m : Int) = ((n % m : Nat) : Int) := by
  rw [Int.fmod_eq_emod_of_nonneg _ (Int.natCast_nonneg m)]
  exact (Int.natCast_emod n m).symm
theorem nat_at {xs : List Int} (hl : xs.length = 50) (hx : ∀ x ∈ xs, 0 ≤ x ∧ x < 1009) (i : Nat) (hi : i < 50) : ∃ n : Nat, (xs.map V.int)[i]? = some (.int (n : Int)) := by
  have h : i < xs.length := by omega
  have := (hx _ (List.getElem_mem h)).1
  refine ⟨xs[i].toNat, ?_⟩
  rw [List.getElem?_map, List.getElem?_eq_getElem h]
  show some (V.int xs[i]) = some (V.int (xs[i].toNat : Int))
  rw [Int.toNat_of_nonneg this]
theorem dr_no {L : List (Addr × Sm Str)} {x : Str} (h : x ∉ L.map (·.2.nm)) : valV (drKV L) (Sum.inr x : Key) = none := by
  induction L with
  | nil => rfl
  | cons q L ih =>
    rw [List.map_cons, List.mem_cons, not_or] at h
    show valV ((Sum.inr q.2.nm, V.ref q.1) :: drKV L) _ = _
    rw [valV_neg (p := (Sum.inr q.2.nm, V.ref q.1)) (fun z => h.1 (Sum.inr.inj z).symm)]
    exact ih h.2
theorem dr_put {L : List (Addr × Sm Str)} {t : Addr} {e : Sm Str} (h : e.nm ∉ L.map (·.2.nm)) : putK (drKV L) (Sum.inr e.nm : Key) (.ref t) = drKV (L ++ [(t, e)]) := by
  rw [putK_new _ (dr_no h)]
  unfold drKV
  rw [List.map_append]
  rfl
section
variable {P : Program} {w : World} {K : PySem.W.Frag} {mg : Str → Option Value} {base : Heap} {C : Addr}
theorem sc_plant : FnScope ["_law_numbers_here", "_law_at", "_law_knots", "_law_streams", "_law_menu", "_law_names", "_law_many", "_law_k", "_law_lots", "_law_found", "_law_first", "_law_second", "_law_tail", "_law_head", "_law_low"] ["_law_numbers_here", "_law_at", "_law_knots", "_law_streams"] (defScope sPlant) :=
  ⟨rfl, rfl, rfl, by decide +kernel, rfl, by decide +kernel, by decide +kernel⟩
theorem ok_plant {f : Addr} {fd : FuncData} (F : Fun K "_law_plant" "_law_plant" sPlant f fd) (T : Txt K mg C) : FnOk P w K mg base CX0 1 f fd ["_law_numbers_here", "_law_at", "_law_knots", "_law_streams"] (spPlant K) := by
  refine F.ok sc_plant (fun vs H Q E h => ?_) (fun cdv A outer s H vs Q E hr h => ?_)
  · obtain ⟨l, xs, rfl, _⟩ := h
    rfl
  · obtain ⟨l, xs, rfl, hl, hlen, hx, q⟩ := h
    have hu := hu_of hr
    refine ⟨_, pss_cons (ps_set (i := 4) sc_plant.nd rfl (.inr rfl) (pe_lst (pa_cons pe_str (pa_cons pe_str (pa_cons pe_str (pa_cons pe_str (pa_cons pe_str (pa_cons pe_str (pa_cons pe_str (pa_cons pe_str pa_nil))))))))))
      (pss_cons (ps_set (i := 5) sc_plant.nd rfl (.inl rfl) (pe_lst (pa_cons pe_str (pa_cons pe_str (pa_cons pe_str (pa_cons pe_str (pa_cons pe_str (pa_cons pe_str (pa_cons pe_str (pa_cons pe_str (pa_cons pe_str (pa_cons pe_str (pa_cons pe_str (pa_cons pe_str pa_nil))))))))))))))
      (pss_cons (ps_set (i := 6) sc_plant.nd rfl (.inl rfl) (pe_op op_add pe_int (pe_op op_modN (pe_callTy call_int1 (by rfl) T.int (by decide +kernel) (pa_cons (pe_ix ix_list (pv 0) (pv 1) (fun _ _ => rfl)) pa_nil)) (pv 2))))
      (pss_cons (ps_setLc (i := 8) (own := [("_law_k", 7)]) (g := gName 7) (by rfl) sc_plant.nd rfl rfl (sw_true rfl rfl rfl (by decide +kernel)) (pi_range1 rfl T.range (pa_cons (pv 6) pa_nil))
        (blkOk_by (own := [("_law_k", 7)]) (N := ["_law_numbers_here", "_law_at", "_law_knots", "_law_streams", "_law_menu", "_law_names", "_law_many", "_law_k", "_law_lots", "_law_found", "_law_first", "_law_second", "_law_tail", "_law_head", "_law_low"]) (sc := defScope sPlant) (by decide +kernel))
        (fun _ _ _ _ _ => pg_name (i := 7) sc_plant.nd rfl (Or.inl rfl)) (fun _ _ _ _ _ => pts_nil)
        (fun _ _ _ _ _ => pe_ix (r := rIxL K) ix_list (pv 4) (pe_op op_mod (pe_callTy call_int1 (by rfl) T.int (by decide +kernel) (pa_cons (pe_op op_add (pv 7) (pe_ix (r := rIxL K) ix_list (pv 0) (pe_op op_add (pv 1) pe_int) (fun _ _ => rfl))) pa_nil)) pe_int) (fun _ _ => rfl)))
      (pss_cons (ps_set (i := 9) sc_plant.nd rfl (.inl rfl) pe_dnewK)
      (pss_cons (ps_for PassesOwn.never rfl (pi_range1 rfl T.range (pa_cons (pe_op op_modN (pe_callTy call_int1 (by rfl) T.int (by decide +kernel) (pa_cons (pe_ix ix_list (pv 0) (pe_op op_add (pv 1) pe_int) (fun _ _ => rfl)) pa_nil)) (pe_op op_add (pv 3) pe_int)) pa_nil)) (pg_name (i := 7) sc_plant.nd rfl (Or.inl rfl))
        (pss_cons (ps_par (i := 10) (j := 11) (by rfl) sc_plant.nd rfl rfl (by decide) rfl rfl (pa_cons (pe_callTy call_int1 (by rfl) T.int (by decide +kernel) (pa_cons (pe_ix ix_list (pv 0) (pe_op op_add (pe_op op_add (pv 1) pe_int) (pe_op op_mul pe_int (pv 7))) (fun _ _ => rfl)) pa_nil))
            (pa_cons (pe_callTy call_int1 (by rfl) T.int (by decide +kernel) (pa_cons (pe_ix ix_list (pv 0) (pe_op op_add (pe_op op_add (pv 1) pe_int) (pe_op op_mul pe_int (pv 7))) (fun _ _ => rfl)) pa_nil)) pa_nil)) (by rfl))
        (pss_cons (ps_par (i := 12) (j := 13) (by rfl) sc_plant.nd rfl rfl (by decide) rfl rfl (pa_cons (pe_ix ix_list (pv 8) (pe_op op_modN (pv 10) (pv 6)) (fun _ _ => rfl))
            (pa_cons (pe_ix ix_list (pv 8) (pe_op op_modN (pe_callTy call_int1 (by rfl) T.int (by decide +kernel) (pa_cons (pe_op op_fdiv (pv 10) pe_int) pa_nil)) (pv 6)) (fun _ _ => rfl)) pa_nil)) (by rfl))
        (pss_cons (ps_if (PW.pt (pw_and (pt_cmpR op_eq (pe_op op_mod (pe_callTy call_int1 (by rfl) T.int (by decide +kernel) (pa_cons (pv 11) pa_nil)) pe_int) pe_int (nomark _)) (pw_and1 (pt_cmpR op_gt (pv 6) pe_int (nomark _)))))
          (pss_one (ps_par (i := 12) (j := 13) (by rfl) sc_plant.nd rfl rfl (by decide) rfl rfl (pa_cons (pe_ix ix_list (pv 8) (pe_op op_modN (pe_callTy call_int1 (by rfl) T.int (by decide +kernel) (pa_cons (pv 7) pa_nil)) (pv 6)) (fun _ _ => rfl))
            (pa_cons (pe_ix ix_list (pv 8) (pe_op op_modN (pe_callTy call_int1 (by rfl) T.int (by decide +kernel) (pa_cons (pe_op op_add (pv 7) pe_int) pa_nil)) (pv 6)) (fun _ _ => rfl)) pa_nil)) (by rfl))) pss_nil)
        (pss_cons (ps_set (i := 14) sc_plant.nd rfl (.inl rfl) (pe_op op_mod (pe_callTy call_int1 (by rfl) T.int (by decide +kernel) (pa_cons (pe_op op_fdiv (pv 11) pe_int) pa_nil)) pe_int))
        (pss_one (ps_dput hu (pv 9) (pe_ix ix_list (pv 5) (pe_op op_mod (pe_callTy call_int1 (by rfl) T.int (by decide +kernel) (pa_cons (pe_op op_add (pe_op op_mul pe_int (pv 7)) (pe_ix ix_list (pv 0) (pe_op op_add (pv 1) pe_int) (fun _ _ => rfl))) pa_nil)) pe_int) (fun _ _ => rfl))
          (pe_tup (pa_cons (pv 12) (pa_cons (pv 13) (pa_cons (pv 14) (pa_cons (pe_op op_add (pv 14) (pe_op op_mod (pe_callTy call_int1 (by rfl) T.int (by decide +kernel) (pa_cons (pe_op op_fdiv (pv 11) pe_int) pa_nil)) pe_int)) pa_nil))))) rfl)))))))
      (pss_one (ps_ret (pe_tup (pa_cons (pe_callB cr_sortedS (by rfl) T.sorted (by decide +kernel) (pa_cons (pv 8) pa_nil)) (pa_cons (pv 9) pa_nil)))))))))), ?_⟩
    obtain ⟨n0, g0⟩ := nat_at hlen hx 0 (by decide)
    obtain ⟨c, g1⟩ := nat_at hlen hx 1 (by decide)
    obtain ⟨n2, g2⟩ := nat_at hlen hx 2 (by decide)
    -- the menus
    refine ⟨by show 8 ≤ sizeLine; decide, fun ml nml => ?_⟩
    refine gen nml _ ?_
    intro H1 s1 hml
    have hml : H1 ml = some (.lst (menuL.map V.str)) := hml
    refine ⟨by show 12 ≤ sizeLine; decide, fun nl nnl => ?_⟩
    refine gen nnl _ ?_
    intro H2 s2 hnl
    have hnl : H2 nl = some (.lst (namesL.map V.str)) := hnl
    have s12 := s1.trans s2
    -- how many knots
    refine ⟨_, rfl, _, rfl, l, _, 0, _, rfl, rfl, s12.seq hl, at_of (j := 0) rfl g0, .inl ⟨_, rfl, _, rfl, _, 6, rfl, rfl, by show (6 : Int) ≠ 0; decide, 1, _, rfl, rfl, ?_⟩⟩
    obtain ⟨m, em, hm1, hm6⟩ : ∃ m : Nat, 1 + Int.fmod (n0 : Int) 6 = (m : Int) ∧ 1 ≤ m ∧ m ≤ 6 := ⟨1 + n0 % 6, by have := fm n0 6; have e : ((6 : Nat) : Int) = 6 := rfl; rw [e] at this; rw [this]; omega, by omega, by omega⟩
    -- the knots
    refine ⟨_, rfl, 1 + Int.fmod (n0 : Int) 6, rfl, by rw [em]; omega, by rw [em]; omega, fun kl nkl => ?_⟩
    refine lc_all (walk_range (lo := 0) (n := (1 + Int.fmod (n0 : Int) 6).toNat)) nkl (by rw [em]; omega) (fun _ _ => trivial) (fun i acc _ => acc = (lotsK i c).map V.str) rfl (fun _ _ _ _ _ h => h) (fun i acc _ h => by rw [h, List.length_map, lotsK_len]; exact Nat.le_refl _) ?_ ?_
    · rintro i v H3 H4 acc hi s3 ha rfl ⟨rfl, rfl⟩ N kT
      refine ⟨rfl, _, rfl, _, rfl, _, rfl, _, rfl, 0, 1, rfl, rfl, l, _, _, _, rfl, rfl, s3.seq (s12.seq hl), at_of (j := 1) rfl g1, _, _, rfl, rfl, .inl ⟨_, rfl, _, _, rfl, rfl, by show (0 : Int) < 8; decide,
        ml, _, _, _, rfl, rfl, sq (s3 _ _ (s2 _ _ hml)), at_of (j := (i + c) % 8) ?_ (pickL_at (show (i + c) % 8 < 8 by omega)), kT _ _ (Same.refl _) ?_⟩⟩
      · omega
      · unfold lotsK
        rw [List.range_succ, List.map_append, List.map_append]
        rfl
    rintro H3 acc s3 hkl rfl
    rw [em, Int.toNat_natCast] at hkl
    have s13 := s12.trans s3
    -- found = {}
    intro d nd
    refine gen nd _ ?_
    intro H4 s4 hd4
    have s14 := s13.trans s4
    have nd0 := s13.free nd
    -- the streams
    obtain ⟨z, ez, hz9⟩ : ∃ z : Nat, Int.fmod (n2 : Int) (9 + 1) = (z : Int) ∧ z ≤ 9 := ⟨n2 % 10, by have := fm n2 10; have e : ((10 : Nat) : Int) = 9 + 1 := rfl; rw [e] at this; exact this, by omega⟩
    refine ⟨_, rfl, _, rfl, 0, 2, rfl, rfl, l, _, _, _, rfl, rfl, s14.seq hl, at_of (j := 2) rfl g2, .inl ⟨_, rfl, _, rfl, 9, 1, rfl, rfl, _, _, rfl, rfl, by show (9 + 1 : Int) ≠ 0; decide, ?_⟩⟩
    refine ⟨Int.fmod (n2 : Int) (9 + 1), rfl, by rw [ez]; omega, by rw [ez]; omega, for_range (lo := 0) (n := (Int.fmod (n2 : Int) (9 + 1)).toNat) (fun i σ H' => Same H3 H' ∧ ∃ (L : List (Addr × Sm Str)) (v7 v10 v11 v12 v13 v14 : Option V),
        σ = [some (.ref l), some (.int 0), some (.int 6), some (.int 9), some (.ref ml), some (.ref nl), some (.int (1 + Int.fmod (n0 : Int) 6)), v7, some (.ref kl), some (.ref d), v10, v11, v12, v13, v14] ∧ H' d = some (.dK (drKV L)) ∧ DrAt H' L ∧ L.map (·.2.nm) = (List.range i).map (nmK c) ∧
        ∀ q ∈ L, q.2.tl ∈ lotsK m c ∧ q.2.hd ∈ lotsK m c ∧ 0 ≤ q.2.lo ∧ q.2.lo ≤ q.2.hi ∧ q.2.hi ≤ 1000000)
      ⟨s4, [], none, none, none, none, none, none, rfl, hd4, (fun q hq => by cases hq), rfl, fun q hq => by cases hq⟩ ?_ ?_⟩
    · rintro i σ H5 hi ⟨s5, L, v7, v10, v11, v12, v13, v14, rfl, hd5, hL5, hnm, hok⟩
      rw [ez, Int.toNat_natCast] at hi
      have hi9 : i < 9 := by omega
      have hLl : L.length = i := by
        have := congrArg List.length hnm
        rw [List.length_map, List.length_map, List.length_range] at this
        exact this
      have s15 := s13.trans s5
      have hl5 := s15.seq hl
      have hk5 := s5 _ _ hkl
      have hmod : ∀ a : Nat, Int.fmod (a : Int) (1 + Int.fmod (n0 : Int) 6) = ((a % m : Nat) : Int) := fun a => by rw [em]; exact fm a m
      have hm0 : 1 + Int.fmod (n0 : Int) 6 ≠ 0 := by rw [em]; omega
      obtain ⟨a1, ga⟩ := nat_at hlen hx (3 + 2 * i) (by omega)
      obtain ⟨a2, gb⟩ := nat_at hlen hx (4 + 2 * i) (by omega)
      -- first, second
      refine ⟨_, rfl, _, rfl, 0, 3, rfl, rfl, _, rfl, 2, _, rfl, rfl, .inl ⟨by decide, by decide⟩, _, _, rfl, rfl, l, _, _, _, rfl, rfl, hl5, at_of (j := 3 + 2 * i) (by omega) ga, .inl ⟨_, rfl, ?_⟩⟩
      refine ⟨_, rfl, _, rfl, 0, 4, rfl, rfl, _, rfl, 2, _, rfl, rfl, .inl ⟨by decide, by decide⟩, _, _, rfl, rfl, l, _, _, _, rfl, rfl, hl5, at_of (j := 4 + 2 * i) (by omega) gb, .inl ⟨_, rfl, _, _, rfl, ?_⟩⟩
      -- tail, head
      obtain ⟨tl, gt, htl⟩ := lotsK_at (m := m) (c := c) (j := a1 % m) (Nat.mod_lt _ (by omega))
      obtain ⟨hd, gh, hhd⟩ := lotsK_at (m := m) (c := c) (j := a1 / 12 % m) (Nat.mod_lt _ (by omega))
      refine ⟨_, rfl, _, rfl, _, rfl, _, _, rfl, rfl, hm0, kl, _, _, _, rfl, rfl, sq hk5, at_of (j := a1 % m) (hmod a1) gt, ?_⟩
      refine ⟨_, rfl, _, rfl, _, _, rfl, rfl, ⟨by decide, by decide⟩, .inl ⟨_, rfl, _, rfl, _, _, rfl, rfl, hm0, kl, _, _, _, rfl, rfl, sq hk5, at_of (j := a1 / 12 % m) (hmod (a1 / 12)) gh, _, _, rfl, ?_⟩⟩
      -- the test
      have e3 := Int.emod_nonneg ((a2 : Int) / 3) (show (4 : Int) ≠ 0 by decide)
      have e4 := Int.emod_lt_of_pos ((a2 : Int) / 3) (show (0 : Int) < 4 by decide)
      have e5 := Int.emod_nonneg ((a2 : Int) / 12) (show (9 : Int) ≠ 0 by decide)
      have e6 := Int.emod_lt_of_pos ((a2 : Int) / 12) (show (0 : Int) < 9 by decide)
      have hnew : nmK c i ∉ L.map (·.2.nm) := by
        rw [hnm]
        intro hm
        obtain ⟨j, hj, ej⟩ := List.mem_map.mp hm
        exact nmK_ne (List.mem_range.mp hj) hi9 ej
      refine ⟨_, rfl, .inl ⟨_, rfl, _, _, rfl, rfl, by show (0 : Int) < 3; decide, rfl, _, rfl, ?_⟩⟩
      refine ite2 (fun _ => ⟨_, rfl, _, _, rfl, rfl, _, rfl, ite2 (fun _ => ?_) (fun _ => ?_)⟩) (fun _ => ?_)
      · obtain ⟨tl', gt', htl'⟩ := lotsK_at (m := m) (c := c) (j := i % m) (Nat.mod_lt _ (by omega))
        obtain ⟨hd', gh', hhd'⟩ := lotsK_at (m := m) (c := c) (j := (i + 1) % m) (Nat.mod_lt _ (by omega))
        refine ⟨_, rfl, _, rfl, .inl ⟨_, rfl, _, rfl, _, _, rfl, rfl, hm0, kl, _, _, _, rfl, rfl, sq hk5, at_of (j := i % m) (by rw [Int.zero_add]; exact hmod i) gt', ?_⟩⟩
        refine ⟨_, rfl, _, rfl, _, _, rfl, rfl, .inl ⟨_, rfl, _, rfl, _, _, rfl, rfl, hm0, kl, _, _, _, rfl, rfl, sq hk5, at_of (j := (i + 1) % m) (by rw [show (0 : Int) + (i : Int) + 1 = ((i + 1 : Nat) : Int) by omega]; exact hmod (i + 1)) gh', _, _, rfl, ?_⟩⟩
        clear htl hhd gt gh
        have htl := htl'
        have hhd := hhd'
        revert htl hhd
        generalize tl' = tl
        generalize hd' = hd
        intro htl hhd
        -- low
        refine ⟨_, rfl, _, _, rfl, rfl, ⟨by decide, by decide⟩, .inl ⟨_, rfl, _, _, rfl, rfl, by show (0 : Int) < 4; decide, ?_⟩⟩
        -- found[..] = (tail, head, low, ..)
        refine ⟨_, rfl, _, rfl, _, rfl, _, rfl, _, rfl, _, _, rfl, rfl, ⟨by decide, by decide⟩, .inl ⟨_, rfl, _, _, rfl, rfl, by show (0 : Int) < 9; decide, _, _, rfl, rfl, by show 4 ≤ sizeLine; decide, fun t nt => ?_⟩⟩
        refine gen nt _ ?_
        intro H6 s6 ht
        have hd6 := s6 _ _ hd5
        refine ⟨_, rfl, _, rfl, _, rfl, 5, _, rfl, rfl, .inl ⟨by decide, by decide⟩, _, rfl, _, rfl, 0, 1, rfl, rfl, l, _, _, _, rfl, rfl, s6.seq hl5, at_of (j := 1) rfl g1, _, _, rfl, rfl, .inl ⟨_, rfl, _, _, rfl, rfl, by show (0 : Int) < 12; decide,
          nl, _, _, _, rfl, rfl, sq (s6 _ _ (s5 _ _ (s3 _ _ hnl))), at_of (j := (5 * i + c) % 12) (by omega) (pickL_at (show (5 * i + c) % 12 < 12 by omega)), d, _, rfl, DPut.k (k := (Sum.inr (nmK c i) : Key)) hd6 (small1000 (by unfold drKV; rw [List.length_map]; omega)), ?_⟩⟩
        have ndt : t ≠ d := ne_of ht hd6 (by intro z; cases z)
        refine ⟨same_at (s5.trans s6) nd, L ++ [(t, ⟨nmK c i, tl, hd, (a2 : Int) / 3 % 4, (a2 : Int) / 3 % 4 + (a2 : Int) / 12 % 9⟩)], _, _, _, _, _, _, rfl, ?_, fun q hq => ?_, ?_, fun q hq => ?_⟩
        · rw [upd_same]
          exact congrArg (fun z => some (HO.dK z)) (dr_put (e := ⟨nmK c i, tl, hd, (a2 : Int) / 3 % 4, (a2 : Int) / 3 % 4 + (a2 : Int) / 12 % 9⟩) hnew)
        · rcases List.mem_append.mp hq with hq | hq
          · have h := s6 _ _ (hL5 q hq)
            rw [upd_ne (ne_of h hd6 (by intro z; cases z))]
            exact h
          · rw [List.mem_singleton.mp hq]
            show upd H6 d _ t = _
            rw [upd_ne ndt]
            exact ht
        · rw [List.map_append, hnm, List.range_succ, List.map_append]
          rfl
        · rcases List.mem_append.mp hq with hq | hq
          · exact hok q hq
          · rw [List.mem_singleton.mp hq]
            exact ⟨htl, hhd, e3, by show (a2 : Int) / 3 % 4 ≤ (a2 : Int) / 3 % 4 + (a2 : Int) / 12 % 9; omega, by show (a2 : Int) / 3 % 4 + (a2 : Int) / 12 % 9 ≤ 1000000; omega⟩
      all_goals
        refine ⟨_, rfl, _, _, rfl, rfl, ⟨by decide, by decide⟩, .inl ⟨_, rfl, _, _, rfl, rfl, by show (0 : Int) < 4; decide, ?_⟩⟩
        -- found[..] = (tail, head, low, ..)
        refine ⟨_, rfl, _, rfl, _, rfl, _, rfl, _, rfl, _, _, rfl, rfl, ⟨by decide, by decide⟩, .inl ⟨_, rfl, _, _, rfl, rfl, by show (0 : Int) < 9; decide, _, _, rfl, rfl, by show 4 ≤ sizeLine; decide, fun t nt => ?_⟩⟩
        refine gen nt _ ?_
        intro H6 s6 ht
        have hd6 := s6 _ _ hd5
        refine ⟨_, rfl, _, rfl, _, rfl, 5, _, rfl, rfl, .inl ⟨by decide, by decide⟩, _, rfl, _, rfl, 0, 1, rfl, rfl, l, _, _, _, rfl, rfl, s6.seq hl5, at_of (j := 1) rfl g1, _, _, rfl, rfl, .inl ⟨_, rfl, _, _, rfl, rfl, by show (0 : Int) < 12; decide,
          nl, _, _, _, rfl, rfl, sq (s6 _ _ (s5 _ _ (s3 _ _ hnl))), at_of (j := (5 * i + c) % 12) (by omega) (pickL_at (show (5 * i + c) % 12 < 12 by omega)), d, _, rfl, DPut.k (k := (Sum.inr (nmK c i) : Key)) hd6 (small1000 (by unfold drKV; rw [List.length_map]; omega)), ?_⟩⟩
        have ndt : t ≠ d := ne_of ht hd6 (by intro z; cases z)
        refine ⟨same_at (s5.trans s6) nd, L ++ [(t, ⟨nmK c i, tl, hd, (a2 : Int) / 3 % 4, (a2 : Int) / 3 % 4 + (a2 : Int) / 12 % 9⟩)], _, _, _, _, _, _, rfl, ?_, fun q hq => ?_, ?_, fun q hq => ?_⟩
        · rw [upd_same]
          exact congrArg (fun z => some (HO.dK z)) (dr_put (e := ⟨nmK c i, tl, hd, (a2 : Int) / 3 % 4, (a2 : Int) / 3 % 4 + (a2 : Int) / 12 % 9⟩) hnew)
        · rcases List.mem_append.mp hq with hq | hq
          · have h := s6 _ _ (hL5 q hq)
            rw [upd_ne (ne_of h hd6 (by intro z; cases z))]
            exact h
          · rw [List.mem_singleton.mp hq]
            show upd H6 d _ t = _
            rw [upd_ne ndt]
            exact ht
        · rw [List.map_append, hnm, List.range_succ, List.map_append]
          rfl
        · rcases List.mem_append.mp hq with hq | hq
          · exact hok q hq
          · rw [List.mem_singleton.mp hq]
            exact ⟨htl, hhd, e3, by show (a2 : Int) / 3 % 4 ≤ (a2 : Int) / 3 % 4 + (a2 : Int) / 12 % 9; omega, by show (a2 : Int) / 3 % 4 + (a2 : Int) / 12 % 9 ≤ 1000000; omega⟩
    · rintro σ H5 ⟨s5, L, v7, v10, v11, v12, v13, v14, rfl, hd5, hL5, hnm, hok⟩
      rw [ez, Int.toNat_natCast] at hnm
      have hLl : L.length = z := by
        have := congrArg List.length hnm
        rw [List.length_map, List.length_map, List.length_range] at this
        exact this
      have s15 := s13.trans s5
      have hk5 := s5 _ _ hkl
      refine ⟨_, rfl, kl, lotsK m c, rfl, sq hk5, by rw [lotsK_len]; omega, fun ys yl pm _ nyl => ?_⟩
      refine gen nyl _ ?_
      intro H6 s6 hy
      refine ⟨_, rfl, by show 2 ≤ sizeLine; decide, fun t nt => ?_⟩
      have s67 : Same H6 (upd H6 t (.tup [.ref yl, .ref d])) := same_upd nt
      refine q t _ ys L (s15.trans (s6.trans s67)) ⟨yl, d, upd_same, s67 _ _ hy, s67 _ _ (s6 _ _ hd5), hL5.same (s6.trans s67), ?_, by omega⟩
      refine ⟨fun e => ?_, by rw [pm.length_eq, lotsK_len]; omega, pm.nodup_iff.mpr (lotsK_nd hm6), fun k hk => lotsK_ok k (pm.mem_iff.mp hk), by rw [List.length_map]; omega, ?_, fun e he => ?_⟩
      · have := pm.length_eq
        rw [e, lotsK_len] at this
        simp at this
        omega
      · rw [List.map_map]
        show (L.map (·.2.nm)).Nodup
        rw [hnm]
        exact nodup_range fun i j hij hj => nmK_ne hij (by omega)
      · obtain ⟨x, hxL, rfl⟩ := List.mem_map.mp he
        obtain ⟨b1, b2, b3⟩ := hok x hxL
        refine ⟨?_, pm.mem_iff.mpr b1, pm.mem_iff.mpr b2, b3⟩
        have : x.2.nm ∈ L.map (·.2.nm) := List.mem_map.mpr ⟨x, hxL, rfl⟩
        rw [hnm] at this
        obtain ⟨j, _, ej⟩ := List.mem_map.mp this
        rw [← ej]
        exact nmK_ok c j
end
end Msr
end
section
/-! The law's plant made, its meters, lists left out. -/
namespace Msr
open PySem PySem.Spec PyProof.Rows L2 Ms MsLow
section
variable {P : Program} {w : World} {K : PySem.W.Frag} {mg : Str → Option Value} {base : Heap} {C : Addr}
theorem dr_at : ∀ {L : List (Addr × Sm Str)} {q : Addr × Sm Str}, (L.map (·.2.nm)).Nodup → q ∈ L → valV (drKV L) (Sum.inr q.2.nm : Key) = some (.ref q.1)
  | x :: L, q, nd, h => by
    rw [List.map_cons, List.nodup_cons] at nd
    rcases List.mem_cons.mp h with rfl | h
    · exact valV_pos (p := (Sum.inr q.2.nm, V.ref q.1)) rfl
    · show valV ((Sum.inr x.2.nm, V.ref x.1) :: drKV L) _ = _
      rw [valV_neg (p := (Sum.inr x.2.nm, V.ref x.1)) (fun z => nd.1 (by
        have z : x.2.nm = q.2.nm := Sum.inr.inj z
        rw [z]
        exact List.mem_map.mpr ⟨q, h, rfl⟩))]
      exact dr_at nd.2 h
/-! ### _law_made -/
theorem sc_made : FnScope ["_law_plant_here", "_law_knots", "_law_streams", "_law_name"] ["_law_plant_here"] (defScope sMade) := ⟨rfl, rfl, rfl, by decide +kernel, rfl, by decide +kernel, by decide +kernel⟩
theorem ok_made {f f1 : Addr} {fd fd1 : FuncData} (F : Fun K "_law_made" "_law_made" sMade f fd) (T : Txt K mg C) (I1 : Mki P w K mg base C f1 fd1) : FnOk P w K mg base CX0 5 f fd ["_law_plant_here"] (spMade C) := by
  refine F.ok sc_made (fun vs H Q E h => ?_) (fun cdv A outer s H vs Q E hr h => ?_)
  · obtain ⟨t, kn, L, rfl, _⟩ := h
    rfl
  · obtain ⟨t, kn, L, rfl, ⟨k, d, ht, hk, hd, hL, wf, hlen⟩, q⟩ := h
    have hu := hu_of hr
    have nd : (L.map (·.2.nm)).Nodup := by
      have := wf.gnd
      rw [List.map_map] at this
      exact this
    refine ⟨_, pss_cons (ps_asg (pv 0) (pg_tup (by rfl) (pgs_cons (pg_name (i := 1) sc_made.nd rfl (.inl rfl)) (pgs_cons (pg_name (i := 2) sc_made.nd rfl (.inr rfl)) pgs_nil))))
      (pss_one (ps_ret (pe_make I1.mk_ I1.ok hr (by rfl) T.mgC I1.bd .nil pass0 (pa_cons (pe_revL (pv 1)) (pa_cons
        (pe_lock (pe_lc (own := [("_law_name", 3)]) (g := gName 3) (by rfl) sc_made.nd (pi_keys (pv 2)) (blkOk_by (own := [("_law_name", 3)]) (N := ["_law_plant_here", "_law_knots", "_law_streams", "_law_name"]) (sc := defScope sMade) (by decide +kernel))
          (fun _ _ _ _ _ => pg_name (i := 3) sc_made.nd rfl (Or.inl rfl)) (fun _ _ _ _ _ => pts_nil) (fun _ _ _ _ _ => pe_op (r := rCatA K) op_catA (pe_tup (pa_cons (pv 3) pa_nil)) (pe_dget hu (pv 2) (pv 3) (fun _ _ => rfl))))) pa_nil))))), ?_⟩
    refine ⟨_, rfl, t, _, rfl, st ht, rfl, _, _, rfl, _, _, rfl, rfl, ?_⟩
    -- knots[::-1]
    refine ⟨_, rfl, k, _, rfl, sq hk, fun r nr => ?_⟩
    refine gen nr _ ?_
    intro H1 s1 hr1
    rw [← List.map_reverse] at hr1
    have hd1 := s1 _ _ hd
    -- the streams
    refine ⟨d, _, hd1, trivial, fun od => ?_⟩
    have hL1 : DrAt (upd H1 d (.frz od (.dK (drKV L)))) L := fun q hq => by
      have h := s1 _ _ (hL q hq)
      rw [upd_ne (ne_of h hd1 (by intro z; cases z))]
      exact h
    refine ⟨_, rfl, d, od, rfl, .inl ⟨_, upd_same, fun D nD => ?_⟩⟩
    refine lc_all walk_keys nD (by unfold drKV; rw [List.length_map]; omega) (fun H' s' => s' _ _ upd_same) (fun i acc H' => ∃ Z : List (Addr × Sm Str), acc = (Z.map fun q : Addr × Sm Str => V.ref q.1) ∧ SmsAt H' Z ∧ Z.map (·.2) = (L.take i).map (·.2))
      ⟨[], rfl, (fun q hq => by cases hq), rfl⟩ (fun i acc H' H'' s' ⟨Z, h1, h2, h3⟩ => ⟨Z, h1, smsAt_same h2 s', h3⟩) (fun i acc H' ⟨Z, h1, h2, h3⟩ => by
        have := congrArg List.length h3
        rw [List.length_map, List.length_map, List.length_take] at this
        rw [h1, List.length_map]
        omega) ?_ ?_
    · rintro i v H2 H3 acc hi s2 ha ⟨Z, rfl, hZ, hZm⟩ ⟨rfl, kk, vv, hkv, rfl⟩ N kT
      unfold drKV at hkv
      rw [List.getElem?_map] at hkv
      obtain ⟨x, hx, ex⟩ := Option.map_eq_some_iff.mp hkv
      obtain ⟨rfl, rfl⟩ := Prod.mk.inj ex
      have hxm := List.mem_of_getElem? hx
      refine ⟨rfl, _, rfl, by show 1 ≤ sizeLine; decide, fun t1 nt1 => ?_⟩
      have s3 : Same H3 (upd H3 t1 (.tup [.str x.2.nm])) := same_upd nt1
      have hd3 : (upd H3 t1 (.tup [V.str x.2.nm])) d = some (.frz od (.dK (drKV L))) := s3 _ _ (s2 _ _ upd_same)
      have hg : DGet (upd H3 t1 (.tup [V.str x.2.nm])) d (V.str x.2.nm) (some (.ref x.1)) := .inl ⟨drKV L, Sum.inr x.2.nm, .inr ⟨od, hd3⟩, rfl, (dr_at nd hxm).symm⟩
      refine ⟨_, rfl, _, rfl, d, _, rfl, hg, t1, x.1, [V.str x.2.nm], _, rfl, rfl, st upd_same, st (s3 _ _ (s2 _ _ (hL1 x hxm))), by show 5 ≤ sizeLine; decide, (fun z => by cases z), (fun _ z => by cases z), fun _ _ t2 nt2 => ?_⟩
      have s4 := s3.trans (same_upd (o := .tup (smV x.2)) nt2)
      refine kT _ _ s4 ⟨Z ++ [(t2, x.2)], by rw [List.map_append]; rfl, fun q hq => ?_, ?_⟩
      · rcases List.mem_append.mp hq with hq | hq
        · exact same_wo s4 _ _ (hZ q hq)
        · rw [List.mem_singleton.mp hq]
          have nt : t2 ≠ D := (ne_of_none (s3 _ _ ha) nt2).symm
          show wo _ D t2 = _
          unfold wo
          rw [if_neg nt]
          exact upd_same
      · rw [List.map_append, hZm, List.take_add_one, hx, List.map_append]
        rfl
    rintro H2 acc s2 ha2 ⟨Z, rfl, hZ, hZm⟩
    have hkvl : (drKV L).length = L.length := by unfold drKV; rw [List.length_map]
    rw [hkvl, List.take_length] at hZm
    refine ⟨s2 _ _ upd_same, ?_⟩
    -- unlocked
    have nDd : D ≠ d := by
      intro z
      rw [z, upd_same] at nD
      cases nD
    have s3 : Same H1 (upd H2 d (.dK (drKV L))) := fun b o e => by
      by_cases hb : b = d
      · subst hb
        rw [upd_same, ← hd1]
        exact e
      · rw [upd_ne hb]
        exact s2 b o (by rw [upd_ne hb]; exact e)
    have hD3 : (upd H2 d (.dK (drKV L))) D = some (.lst (Z.map fun q : Addr × Sm Str => V.ref q.1)) := by rw [upd_ne nDd]; exact ha2
    have hZ3 : SmsAt (upd H2 d (.dK (drKV L))) Z := fun q hq => by
      have h := wo_same _ _ (hZ q hq)
      rw [upd_ne (ne_of h (s2 _ _ upd_same) (by intro z; cases z))]
      exact h
    generalize upd H2 d (.dK (drKV L)) = H3 at s3 hD3 hZ3
    intro x dx nx ndx _
    have s4 : Same H3 (upd (upd H3 dx (.own x)) x (.ins C dx [])) := fun c o e => by
      rw [upd_ne (ne_of_none e nx), upd_ne (ne_of_none e ndx)]
      exact e
    have wf' : Wf kn.reverse (Z.map (·.2)) := by
      rw [hZm]
      refine ⟨fun z => wf.kne (List.reverse_eq_nil_iff.mp z), by rw [List.length_reverse]; exact wf.klen, (List.reverse_perm kn).nodup_iff.mpr wf.knd, fun k hk => wf.kok k (List.mem_reverse.mp hk), wf.glen, wf.gnd, fun e he => ?_⟩
      obtain ⟨a1, a2, a3, a4⟩ := wf.gok e he
      exact ⟨a1, List.mem_reverse.mpr a2, List.mem_reverse.mpr a3, a4⟩
    refine ⟨x, dx, r, D, kn.reverse, Z, rfl, upd_same, s4.seq (sq (s3 _ _ hr1)), s4.seq (sq hD3), smsAt_same hZ3 s4, wf', fun H5 kn' L' kp _ pl hP => ⟨rfl, ?_⟩⟩
    refine q x H5 kn' _ ((s1.trans s3).trans (Same.made nx ndx kp)) hP fun n => ?_
    have e1 : nms (L'.map (·.2)) = L'.map (·.2.nm) := by unfold nms; rw [List.map_map]; rfl
    have e2 : Z.map (·.2.nm) = L.map (·.2.nm) := by
      have := congrArg (List.map (·.nm)) hZm
      rw [List.map_map, List.map_map] at this
      exact this
    rw [e1, ← e2]
    exact (pl.map (·.2.nm)).mem_iff
end
end Msr
end
section
/-! The law's meters, lists left out. -/
namespace Msr
open PySem PySem.Spec PyProof.Rows L2 Ms MsLow
section
variable {P : Program} {w : World} {K : PySem.W.Frag} {mg : Str → Option Value} {base : Heap} {C : Addr}
/-! ### _law_most -/
theorem sc_most : FnScope ["_law_plant_here", "_law_numbers_here", "_law_at", "_law_names", "_law_found", "_law_k"] ["_law_plant_here", "_law_numbers_here", "_law_at"] (defScope sMost) := ⟨rfl, rfl, rfl, by decide +kernel, rfl, by decide +kernel, by decide +kernel⟩
theorem ok_most {f : Addr} {fd : FuncData} (F : Fun K "_law_most" "_law_most" sMost f fd) (T : Txt K mg C) : FnOk P w K mg base CX0 1 f fd ["_law_plant_here", "_law_numbers_here", "_law_at"] (spMost K) := by
  refine F.ok sc_most (fun vs H Q E h => ?_) (fun cdv A outer s H vs Q E hr h => ?_)
  · obtain ⟨t, l, kn, L, xs, rfl, _⟩ := h
    rfl
  · obtain ⟨t, l, kn, L, xs, rfl, ⟨k, d, ht, hk, hd, hL, wf, hlen⟩, hl, hxl, hx, q⟩ := h
    have nd : (L.map (·.2.nm)).Nodup := by
      have := wf.gnd
      rw [List.map_map] at this
      exact this
    refine ⟨_, pss_cons (ps_set (i := 3) sc_most.nd rfl (.inl rfl) (pe_callB (call_sortedD rfl) (by rfl) T.sorted (by decide +kernel) (pa_cons (pe_ix ix_tup (pv 0) pe_int (fun _ _ => rfl)) pa_nil)))
      (pss_cons (ps_set (i := 4) sc_most.nd rfl (.inl rfl) (pe_lst pa_nil))
      (pss_cons (ps_for PassesOwn.never rfl (pi_range1 rfl T.range (pa_cons (pe_callB call_len_seq (by rfl) T.len PySem.boot_len (pa_cons (pv 3) pa_nil)) pa_nil)) (pg_name (i := 5) sc_most.nd rfl (Or.inl rfl))
        (pss_one (ps_if (pt_cmpR op_gt (pe_op op_modN (pe_callTy call_int1 (by rfl) T.int (by decide +kernel) (pa_cons (pe_ix ix_list (pv 1) (pe_op op_add (pv 2) (pv 5)) (fun _ _ => rfl)) pa_nil))
            (pe_ix ix_list (pe_lst (pa_cons pe_int (pa_cons pe_int (pa_cons pe_int pa_nil)))) (pe_op op_mod (pe_callTy call_int1 (by rfl) T.int (by decide +kernel) (pa_cons (pe_ix ix_list (pv 1) (pv 2) (fun _ _ => rfl)) pa_nil)) pe_int) (fun _ _ => rfl))) pe_int (nomark _))
          (pss_one (ps_set (i := 4) sc_most.nd rfl (.inl rfl) (pe_ix ix_list (pe_lst (pa_cons (pe_op op_cat (pv 4) (pe_lst (pa_cons (pe_ix ix_list (pv 3) (pv 5) (fun _ _ => rfl)) pa_nil))) (pa_cons (pe_op op_cat (pe_lst (pa_cons (pe_ix ix_list (pv 3) (pv 5) (fun _ _ => rfl)) pa_nil)) (pv 4)) pa_nil)))
            (pe_op op_mod (pe_callTy call_int1 (by rfl) T.int (by decide +kernel) (pa_cons (pe_op op_fdiv (pe_ix ix_list (pv 1) (pe_op op_add (pv 2) (pv 5)) (fun _ _ => rfl)) pe_int) pa_nil)) pe_int) (fun _ _ => rfl)))) pss_nil)))
      (pss_one (ps_ret (pv 4))))), ?_⟩
    -- names
    refine ⟨_, rfl, t, _, 1, .ref d, rfl, rfl, st ht, rfl, d, drKV L, L.map (·.2.nm), rfl, .inl hd, by unfold drKV; rw [List.map_map, List.map_map]; rfl, by rw [List.length_map]; omega, fun ys nl pm _ nnl => ?_⟩
    refine gen nnl _ ?_
    intro H1 s1 hy
    have hyl : ys.length ≤ 9 := by rw [pm.length_eq, List.length_map]; exact hlen
    refine ⟨by show 0 ≤ sizeLine; decide, fun f0 nf0 => ?_⟩
    refine gen nf0 _ ?_
    intro H2 s2 hf2
    have hy2 := s2 _ _ hy
    refine ⟨_, rfl, nl, _, rfl, .inl (sq hy2), ((ys.map V.str).length : Int), rfl, by rw [List.length_map]; omega, by rw [List.length_map]; omega, for_range (lo := 0) (n := (((ys.map V.str).length : Int)).toNat) (fun i σ H' => Same H2 H' ∧ ∃ (M : List Str) (fl : Addr) (v5 : Option V),
        σ = [some (.ref t), some (.ref l), some (.int 25), some (.ref nl), some (.ref fl), v5] ∧ H' fl = some (.lst (M.map V.str)) ∧ M.Nodup ∧ M.length ≤ i ∧ ∀ n ∈ M, n ∈ ys.take i)
      ⟨Same.refl _, [], f0, none, rfl, hf2, List.nodup_nil, Nat.le_refl _, fun n hn => by cases hn⟩ ?_ ?_⟩
    · rintro i σ H3 hi ⟨s3, M, fl, v5, rfl, hf3, ndM, hMl, hM⟩
      rw [Int.toNat_natCast, List.length_map] at hi
      have s13 := (s1.trans s2).trans s3
      have hl3 := s13.seq hl
      have hy3 := s3 _ _ hy2
      obtain ⟨a, ga⟩ := nat_at hxl hx (25 + i) (by omega)
      obtain ⟨b, gb⟩ := nat_at hxl hx 25 (by decide)
      obtain ⟨x, hxi⟩ : ∃ x, ys[i]? = some x := ⟨ys[i], List.getElem?_eq_getElem hi⟩
      have hxs : (ys.map V.str)[i]? = some (.str x) := by rw [List.getElem?_map, hxi]; rfl
      have ndy : ys.Nodup := pm.nodup_iff.mpr nd
      have tk : ys.take (i + 1) = ys.take i ++ [x] := by rw [List.take_add_one, hxi]; rfl
      have hxM : x ∉ M := fun hm => by
        have h := ndy.sublist (List.take_sublist (i + 1) ys)
        rw [tk] at h
        exact (List.nodup_append.mp h).2.2 x (hM x hm) x (List.mem_singleton.mpr rfl) rfl
      have keep : ∀ n ∈ M, n ∈ ys.take (i + 1) := fun n hn => by rw [tk]; exact List.mem_append_left _ (hM n hn)
      -- the test
      refine ⟨_, rfl, _, rfl, _, rfl, _, _, rfl, rfl, l, _, _, _, rfl, rfl, hl3, at_of (j := 25 + i) (by omega) ga, .inl ⟨_, rfl, by show 3 ≤ sizeLine; decide, fun c nc => ?_⟩⟩
      refine gen nc _ ?_
      intro H4 s4 hc4
      have three : ∃ j : Int, [V.int 2, V.int 5, V.int 9][b % 3]? = some (.int j) ∧ j ≠ 0 := by
        have : b % 3 < 3 := Nat.mod_lt _ (by decide)
        rcases (by omega : b % 3 = 0 ∨ b % 3 = 1 ∨ b % 3 = 2) with h | h | h <;> rw [h]
        · exact ⟨2, rfl, by decide⟩
        · exact ⟨5, rfl, by decide⟩
        · exact ⟨9, rfl, by decide⟩
      obtain ⟨j, gj, hj0⟩ := three
      refine ⟨_, rfl, _, rfl, l, _, _, _, rfl, rfl, s4.seq hl3, at_of (j := 25) rfl gb, .inl ⟨_, rfl, _, _, rfl, rfl, by show (0 : Int) < 3; decide, c, _, _, _, rfl, rfl, sq hc4, at_of (j := b % 3) (by omega) gj, _, _, rfl, rfl, hj0, _, _, rfl, rfl, _, rfl, ite2 (fun _ => ?_) (fun _ => ?_)⟩⟩
      · -- found + [names[k]]
        have hy4 := s4 _ _ hy3
        refine ⟨_, rfl, _, rfl, _, rfl, nl, _, _, _, rfl, rfl, sq hy4, at_of (j := i) (by omega) hxs, by show 1 ≤ sizeLine; decide, fun a1 na1 => ?_⟩
        refine gen na1 _ ?_
        intro H5 s5 ha1
        have hf5 := s5 _ _ (s4 _ _ hf3)
        have szM : (M.map V.str).length + 1 ≤ sizeLine := Nat.le_of_lt (small1000 (by rw [List.length_map]; omega))
        refine ⟨fl, a1, _, _, rfl, rfl, hf5, ha1, szM, fun p1 np1 => ?_⟩
        refine gen np1 _ ?_
        intro H6 s6 hp1
        -- [names[k]] + found
        refine ⟨_, rfl, _, rfl, nl, _, _, _, rfl, rfl, sq (s6 _ _ (s5 _ _ hy4)), at_of (j := i) (by omega) hxs, by show 1 ≤ sizeLine; decide, fun a2 na2 => ?_⟩
        refine gen na2 _ ?_
        intro H7 s7 ha2
        refine ⟨_, rfl, a2, fl, _, _, rfl, rfl, ha2, s7 _ _ (s6 _ _ hf5), by rw [Nat.add_comm]; exact szM, fun p2 np2 => ?_⟩
        refine gen np2 _ ?_
        intro H8 s8 hp2
        refine ⟨by show 2 ≤ sizeLine; decide, fun L2 nL2 => ?_⟩
        refine gen nL2 _ ?_
        intro H9 s9 hL2
        have s49 := s4.trans (s5.trans (s6.trans (s7.trans (s8.trans s9))))
        refine ⟨_, rfl, _, rfl, _, rfl, _, _, rfl, rfl, l, _, _, _, rfl, rfl, s49.seq hl3, at_of (j := 25 + i) (by omega) ga, _, _, rfl, rfl, ⟨by decide, by decide⟩, .inl ⟨_, rfl, _, _, rfl, rfl, by show (0 : Int) < 2; decide, ?_⟩⟩
        have fin : ∀ (M' : List Str) (fl' : Addr), H9 fl' = some (.lst (M'.map V.str)) → M'.Nodup → M'.length ≤ i + 1 → (∀ n ∈ M', n ∈ ys.take (i + 1)) → Same H2 H9 ∧ ∃ (M : List Str) (fl : Addr) (v5 : Option V),
            [some (V.ref t), some (.ref l), some (.int 25), some (.ref nl), some (.ref fl'), some (.int (0 + (i : Int)))] = [some (.ref t), some (.ref l), some (.int 25), some (.ref nl), some (.ref fl), v5] ∧ H9 fl = some (.lst (M.map V.str)) ∧ M.Nodup ∧ M.length ≤ i + 1 ∧ ∀ n ∈ M, n ∈ ys.take (i + 1) :=
          fun M' fl' h1 h2 h3 h4 => ⟨s3.trans s49, M', fl', _, rfl, h1, h2, h3, h4⟩
        rcases (by omega : a / 9 % 2 = 0 ∨ a / 9 % 2 = 1) with e | e
        · refine ⟨L2, _, _, .ref p1, rfl, rfl, sq hL2, at_of (j := 0) (by omega) rfl, fin (M ++ [x]) p1 ?_ ?_ ?_ ?_⟩
          · rw [s9 _ _ (s8 _ _ (s7 _ _ hp1)), List.map_append]
            rfl
          · exact nd_snoc ndM hxM
          · rw [List.length_append, List.length_singleton]
            omega
          · intro n hn
            rcases List.mem_append.mp hn with h | h
            · exact keep n h
            · rw [tk]
              exact List.mem_append_right _ h
        · refine ⟨L2, _, _, .ref p2, rfl, rfl, sq hL2, at_of (j := 1) (by omega) rfl, fin (x :: M) p2 ?_ ?_ ?_ ?_⟩
          · rw [s9 _ _ hp2]
            rfl
          · exact List.nodup_cons.mpr ⟨hxM, ndM⟩
          · rw [List.length_cons]
            omega
          · intro n hn
            rcases List.mem_cons.mp hn with h | h
            · rw [tk, h]
              exact List.mem_append_right _ (List.mem_singleton.mpr rfl)
            · exact keep n h
      · exact ⟨s3.trans s4, M, fl, _, rfl, s4 _ _ hf3, ndM, by omega, keep⟩
    · rintro σ H3 ⟨s3, M, fl, v5, rfl, hf3, ndM, hMl, hM⟩
      refine ⟨_, rfl, q fl H3 M ((s1.trans s2).trans s3) hf3 ndM fun n hn => ?_⟩
      exact pm.mem_iff.mp (List.mem_of_mem_take (hM n hn))
end
end Msr
end
section
/-! Lists left out. -/
namespace Msr
open PySem PySem.Spec PyProof.Rows L2 Ms MsLow
/-- len's reading, told by K alone -/
def rLenK (K : PySem.W.Frag) : List V → Hp → VK → Prop := fun xs H Q => ∃ p ys, xs = [.ref p] ∧ (SqL K H p ys ∨ SqT K H p ys) ∧ Q (.int ys.length) H
theorem sublist_one {α : Type} {S A : List α} {x : α} : S.Sublist (A ++ [x]) ↔ S.Sublist A ∨ ∃ r, r.Sublist A ∧ S = r ++ [x] := by
  constructor
  · intro h
    obtain ⟨a, b, rfl, h1, h2⟩ := List.sublist_append_iff.mp h
    cases b with
    | nil => exact .inl (by rw [List.append_nil]; exact h1)
    | cons y b =>
      have hl := h2.length_le
      simp only [List.length_cons, List.length_nil] at hl
      have hb : b = [] := List.eq_nil_of_length_eq_zero (by omega)
      subst hb
      have : y = x := List.mem_singleton.mp (h2.subset List.mem_cons_self)
      subst this
      exact .inr ⟨a, h1, rfl⟩
  · rintro (h | ⟨r, h, rfl⟩)
    · exact h.trans (List.sublist_append_left A [x])
    · exact h.append (List.Sublist.refl _)
theorem lots_step {F : List (List Str)} {A : List Str} {x : Str} {k : Nat} (h : ∀ S, S ∈ F ↔ S.Sublist A ∧ S.length ≤ k) (S : List Str) :
    S ∈ F ++ (F.filter fun r => decide (r.length < k)).map (· ++ [x]) ↔ S.Sublist (A ++ [x]) ∧ S.length ≤ k := by
  rw [List.mem_append, h S, sublist_one, List.mem_map]
  constructor
  · rintro (⟨a, b⟩ | ⟨r, hr, rfl⟩)
    · exact ⟨.inl a, b⟩
    · obtain ⟨h1, h2⟩ := List.mem_filter.mp hr
      have h2 : r.length < k := by simpa using h2
      refine ⟨.inr ⟨r, ((h r).mp h1).1, rfl⟩, ?_⟩
      rw [List.length_append, List.length_singleton]
      omega
  · rintro ⟨a | ⟨r, hr, rfl⟩, b⟩
    · exact .inl ⟨a, b⟩
    · rw [List.length_append, List.length_singleton] at b
      exact .inr ⟨r, List.mem_filter.mpr ⟨(h r).mpr ⟨hr, by omega⟩, by simp; omega⟩, rfl⟩
theorem lots_at {H : Hp} {Z : List (Addr × List Str)} {i : Nat} {v : V} (h : (Z.map fun q : Addr × List Str => V.ref q.1)[i]? = some v) : ∃ q, Z[i]? = some q ∧ v = .ref q.1 := by
  rw [List.getElem?_map] at h
  obtain ⟨q, hq, rfl⟩ := Option.map_eq_some_iff.mp h
  exact ⟨q, hq, rfl⟩
section
variable {P : Program} {w : World} {K : PySem.W.Frag} {mg : Str → Option Value} {base : Heap} {C : Addr}
/-! ### _law_lots_of -/
theorem sc_lotsOf : FnScope ["_law_names", "_law_many", "_law_found", "_law_name", "_law_row_here"] ["_law_names", "_law_many"] (defScope sLotsOf) := ⟨rfl, rfl, rfl, by decide +kernel, rfl, by decide +kernel, by decide +kernel⟩
theorem ok_lotsOf {f : Addr} {fd : FuncData} (F : Fun K "_law_lots_of" "_law_lots_of" sLotsOf f fd) (T : Txt K mg C) : FnOk P w K mg base CX0 1 f fd ["_law_names", "_law_many"] (spLotsOf K) := by
  refine F.ok sc_lotsOf (fun vs H Q E h => ?_) (fun cdv A outer s H vs Q E hr h => ?_)
  · obtain ⟨l, M, k, rfl, _⟩ := h
    rfl
  · obtain ⟨l, M, k, rfl, hl, hM, q⟩ := h
    refine ⟨_, pss_cons (ps_set (i := 2) sc_lotsOf.nd rfl (.inl rfl) (pe_lst (pa_cons (pe_lst pa_nil) pa_nil)))
      (pss_cons (ps_for PassesOwn.never rfl (pi_list (pv 0)) (pg_name (i := 3) sc_lotsOf.nd rfl (.inr rfl))
        (pss_one (ps_set (i := 2) sc_lotsOf.nd rfl (.inl rfl) (pe_op op_cat (pv 2)
          (pe_lc (own := [("_law_row_here", 4)]) (g := gName 4) (by rfl) sc_lotsOf.nd (pi_list (pv 2)) (blkOk_by (own := [("_law_row_here", 4)]) (N := ["_law_names", "_law_many", "_law_found", "_law_name", "_law_row_here"]) (sc := defScope sLotsOf) (by decide +kernel))
            (fun _ _ _ _ _ => pg_name (i := 4) sc_lotsOf.nd rfl (Or.inl rfl)) (fun _ _ _ _ _ => pts_one (pt_cmpR op_lt (pe_callB (r := rLenK K) call_len_seq (by rfl) T.len PySem.boot_len (pa_cons (pv 4) pa_nil)) (pv 1) (nomark _)))
            (fun _ _ _ _ _ => pe_op op_cat (pv 4) (pe_lst (pa_cons (pv 3) pa_nil))))))))
      (pss_one (ps_ret (pe_lc (own := [("_law_row_here", 4)]) (g := gName 4) (by rfl) sc_lotsOf.nd (pi_list (pv 2)) (blkOk_by (own := [("_law_row_here", 4)]) (N := ["_law_names", "_law_many", "_law_found", "_law_name", "_law_row_here"]) (sc := defScope sLotsOf) (by decide +kernel))
            (fun _ _ _ _ _ => pg_name (i := 4) sc_lotsOf.nd rfl (Or.inl rfl)) (fun _ _ _ _ _ => pts_one (pt_cmpR op_eq (pe_callB (r := rLenK K) call_len_seq (by rfl) T.len PySem.boot_len (pa_cons (pv 4) pa_nil)) (pv 1) (nomark _)))
            (fun _ _ _ _ _ => pv 4))))), ?_⟩
    -- [[]]
    refine ⟨by show 0 ≤ sizeLine; decide, fun e0 ne0 => ?_⟩
    refine gen ne0 _ ?_
    intro H1 s1 he0
    refine ⟨by show 1 ≤ sizeLine; decide, fun f0 nf0 => ?_⟩
    refine gen nf0 _ ?_
    intro H2 s2 hf0
    have pw : ∀ i, i ≤ 9 → 2 ^ i ≤ 512 := fun i hi => Nat.le_trans (Nat.pow_le_pow_right (by decide) hi) (by decide)
    refine ⟨_, rfl, l, rfl, ⟨_, (s1.trans s2).seq hl⟩, for_list (K := K) (a := l) (xs := M.map V.str) (fun i σ H' => Same H H' ∧ ∃ (fl : Addr) (Z : List (Addr × List Str)) (v3 : Option V), σ = [some (.ref l), some (.int (k : Int)), some (.ref fl), v3, none] ∧
        H' fl = some (.lst (Z.map fun q : Addr × List Str => V.ref q.1)) ∧ LotsAt H' Z ∧ Z.length ≤ 2 ^ i ∧ ∀ S, S ∈ Z.map (·.2) ↔ S.Sublist (M.take i) ∧ S.length ≤ k)
      ⟨s1.trans s2, f0, [(e0, [])], none, rfl, hf0, fun q hq => ?_, Nat.le_refl _, fun S => ?_⟩ (fun i σ H' _ h => h.1.seq hl) ?_ ?_⟩
    · rw [List.mem_singleton.mp hq]
      exact s2 _ _ he0
    · rw [List.take_zero, List.sublist_nil, List.map_singleton, List.mem_singleton]
      constructor
      · intro h
        exact ⟨h, by rw [h]; exact Nat.zero_le _⟩
      · exact fun h => h.1
    · rintro i v σ H3 hv ⟨s3, fl, Z, v3, rfl, hfl, hZ, hZl, hS⟩
      obtain ⟨x, hx, rfl⟩ := strs_getElem hv
      have hi : i < M.length := (List.getElem?_eq_some_iff.mp hx).1
      have tk : M.take (i + 1) = M.take i ++ [x] := by rw [List.take_add_one, hx]; rfl
      have hp := pw i (by omega)
      refine ⟨_, rfl, _, rfl, fl, rfl, ⟨_, sq hfl⟩, fun D nD => ?_⟩
      refine lc_gen (walk_list (xs := Z.map fun q : Addr × List Str => V.ref q.1)) nD (by rw [List.length_map]; omega) (fun H' s' => sq (s' _ _ hfl)) (fun j acc H' => ∃ Y : List (Addr × List Str), acc = (Y.map fun q : Addr × List Str => V.ref q.1) ∧ LotsAt H' Y ∧
          Y.map (·.2) = (((Z.take j).map (·.2)).filter fun r => decide (r.length < k)).map (· ++ [x]))
        ⟨[], rfl, (fun q hq => by cases hq), rfl⟩ (fun j acc H' H'' s' ⟨Y, h1, h2, h3⟩ => ⟨Y, h1, h2.same s', h3⟩) (fun j acc H' ⟨Y, h1, h2, h3⟩ => by
          have := congrArg List.length h3
          rw [List.length_map, List.length_map] at this
          have h5 := List.length_filter_le (fun r : List Str => decide (r.length < k)) ((Z.take j).map (·.2))
          rw [List.length_map, List.length_take] at h5
          rw [h1, List.length_map]
          omega) ?_ ?_
      · rintro j v H4 H5 acc hj s4 ha ⟨Y, rfl, hY, hYm⟩ ⟨rfl, hv⟩ N kT kF
        obtain ⟨z, hz, rfl⟩ := lots_at (H := H) hv
        have hz4 := s4 _ _ (hZ z (List.mem_of_getElem? hz))
        have ex : ((Z.take (j + 1)).map (·.2)).filter (fun r => decide (r.length < k)) = ((Z.take j).map (·.2)).filter (fun r => decide (r.length < k)) ++ if z.2.length < k then [z.2] else [] := by
          rw [List.take_add_one, hz, List.map_append, List.filter_append]
          congr 1
          show List.filter _ [z.2] = _
          by_cases c : z.2.length < k <;> simp [c]
        refine ⟨rfl, _, rfl, z.1, _, rfl, .inl (sq hz4), _, rfl, _, _, rfl, rfl, _, rfl, ?_⟩
        rw [List.length_map]
        by_cases c : z.2.length < k
        · refine itD (by omega) ?_
          refine ⟨_, rfl, _, rfl, by show 1 ≤ sizeLine; decide, fun a1 na1 => ?_⟩
          refine gen na1 _ ?_
          intro H6 s6 ha1
          have zlen : z.2.length ≤ 9 := by
            have := ((hS z.2).mp (List.mem_map.mpr ⟨z, List.mem_of_getElem? hz, rfl⟩)).1.length_le
            rw [List.length_take] at this
            omega
          refine ⟨z.1, a1, _, _, rfl, rfl, s6 _ _ hz4, ha1, Nat.le_of_lt (small1000 (by rw [List.length_map]; show z.2.length + 1 ≤ 1000; omega)), fun p1 np1 => ?_⟩
          have s7 : Same H6 (upd H6 p1 (.lst (z.2.map V.str ++ [.str x]))) := same_upd np1
          refine kT _ _ (s6.trans s7) ⟨Y ++ [(p1, z.2 ++ [x])], by rw [List.map_append]; rfl, fun q hq => ?_, ?_⟩
          · rcases List.mem_append.mp hq with hq | hq
            · exact same_wo (s6.trans s7) _ _ (hY q hq)
            · rw [List.mem_singleton.mp hq]
              have nt : p1 ≠ D := (ne_of_none (s6 _ _ ha) np1).symm
              show wo _ D p1 = _
              unfold wo
              rw [if_neg nt, upd_same, List.map_append]
              rfl
          · rw [ex, if_pos c, List.map_append, List.map_append, hYm]
            rfl
        · refine itN (by omega) (kF _ (Same.refl _) ⟨Y, rfl, hY, ?_⟩)
          rw [ex, if_neg c, List.append_nil]
          exact hYm
      · rintro H4 acc s4 ha4 ⟨Y, rfl, hY, hYm⟩
        rw [List.length_map, List.take_length] at hYm
        have hYl : Y.length ≤ 2 ^ i := by
          have := congrArg List.length hYm
          rw [List.length_map, List.length_map] at this
          have h5 := List.length_filter_le (fun r : List Str => decide (r.length < k)) (Z.map (·.2))
          rw [List.length_map] at h5
          omega
        have hfl4 := s4 _ _ hfl
        have hY4 : LotsAt H4 Y := fun q hq => wo_same _ _ (hY q hq)
        refine ⟨fl, D, _, _, rfl, rfl, hfl4, ha4, Nat.le_of_lt (small1000 (by rw [List.length_map, List.length_map]; have : 2 ^ i ≤ 256 := Nat.le_trans (Nat.pow_le_pow_right (by decide) (show i ≤ 8 by omega)) (by decide); omega)), fun p np => ?_⟩
        have s5 : Same H4 (upd H4 p (.lst ((Z.map fun q : Addr × List Str => V.ref q.1) ++ Y.map fun q : Addr × List Str => V.ref q.1))) := same_upd np
        refine ⟨(s3.trans s4).trans s5, p, Z ++ Y, _, rfl, by rw [upd_same, List.map_append], fun q hq => ?_, ?_, fun S => ?_⟩
        · rcases List.mem_append.mp hq with hq | hq
          · exact s5 _ _ (s4 _ _ (hZ q hq))
          · exact s5 _ _ (hY4 q hq)
        · rw [List.length_append, Nat.pow_succ]
          omega
        · rw [List.map_append, hYm, tk]
          exact lots_step hS S
    · rintro σ H3 ⟨s3, fl, Z, v3, rfl, hfl, hZ, hZl, hS⟩
      rw [List.length_map] at hZl hS
      rw [List.take_length] at hS
      have hp := pw M.length hM
      refine ⟨_, rfl, fl, rfl, ⟨_, sq hfl⟩, fun D nD => ?_⟩
      refine lc_gen (walk_list (xs := Z.map fun q : Addr × List Str => V.ref q.1)) nD (by rw [List.length_map]; omega) (fun H' s' => sq (s' _ _ hfl)) (fun j acc H' => acc = (((Z.take j).filter fun q => decide (q.2.length = k)).map fun q : Addr × List Str => V.ref q.1))
        rfl (fun j acc H' H'' s' h => h) (fun j acc H' h => by
          have h5 := List.length_filter_le (fun q : Addr × List Str => decide (q.2.length = k)) (Z.take j)
          rw [List.length_take] at h5
          rw [h, List.length_map]
          omega) ?_ ?_
      · rintro j v H4 H5 acc hj s4 ha rfl ⟨rfl, hv⟩ N kT kF
        obtain ⟨z, hz, rfl⟩ := lots_at (H := H) hv
        have hz4 := s4 _ _ (hZ z (List.mem_of_getElem? hz))
        have ex := take_filter_snoc hz (fun q : Addr × List Str => decide (q.2.length = k))
        refine ⟨rfl, _, rfl, z.1, _, rfl, .inl (sq hz4), _, rfl, rfl, _, rfl, ?_⟩
        rw [List.length_map]
        by_cases c : z.2.length = k
        · refine itD (by rw [c]) ⟨_, rfl, kT _ _ (Same.refl _) ?_⟩
          rw [ex, if_pos (by simp [c]), List.map_append]
          rfl
        · refine itN (fun h => c ?_) (kF _ (Same.refl _) ?_)
          · injection h with h
            omega
          · rw [ex, if_neg (by simp [c]), List.append_nil]
      · rintro H4 acc s4 ha4 rfl
        rw [List.length_map, List.take_length] at ha4
        refine q D H4 (Z.filter fun q => decide (q.2.length = k)) (s3.trans s4) ha4 (fun q hq => s4 _ _ (hZ q (List.mem_filter.mp hq).1)) (fun S => ?_) ?_
        · rw [List.mem_map]
          constructor
          · rintro ⟨q, hq, rfl⟩
            obtain ⟨h1, h2⟩ := List.mem_filter.mp hq
            exact ⟨((hS q.2).mp (List.mem_map.mpr ⟨q, h1, rfl⟩)).1, by simpa using h2⟩
          · rintro ⟨h1, h2⟩
            obtain ⟨q, hq, rfl⟩ := List.mem_map.mp ((hS S).mpr ⟨h1, by omega⟩)
            exact ⟨q, List.mem_filter.mpr ⟨hq, by simpa using h2⟩, rfl⟩
        · have h5 := List.length_filter_le (fun q : Addr × List Str => decide (q.2.length = k)) Z
          omega
end
end Msr
end
section
/-! The law, in plain Lean. -/
namespace Msr
open PySem PySem.Spec PyProof.Rows L2 Ms MsLow
/-! ### sorted lists -/
theorem sorted_cut {x : Str} {l : List Str} (h : sortedS (x :: l) = true) : sortedS l = true := by
  cases l with
  | nil => rfl
  | cons z l =>
    have h : (!ltCps z.cps.toList x.cps.toList && risingS z l) = true := h
    rw [Bool.and_eq_true] at h
    exact h.2
theorem sorted_le : ∀ {l : List Str} {x : Str}, sortedS (x :: l) = true → ∀ y ∈ l, ¬ y.cps.toList < x.cps.toList
  | [], _, _, _, hy => by cases hy
  | z :: l, x, h, y, hy => by
    have h' : (!ltCps z.cps.toList x.cps.toList && risingS z l) = true := h
    rw [Bool.and_eq_true, ltCps_eq] at h'
    have hz : ¬ z.cps.toList < x.cps.toList := by simpa using h'.1
    rcases List.mem_cons.mp hy with rfl | hy
    · exact hz
    · have := sorted_le (sorted_cut h) y hy
      exact List.not_lt.mpr (List.le_trans (List.not_lt.mp hz) (List.not_lt.mp this))
theorem sorted_one : ∀ {xs ys : List Str}, sortedS xs = true → sortedS ys = true → xs.Nodup → ys.Nodup → (∀ n, n ∈ xs ↔ n ∈ ys) → xs = ys
  | [], [], _, _, _, _, _ => rfl
  | [], y :: ys, _, _, _, _, h => absurd ((h y).mpr List.mem_cons_self) (by simp)
  | x :: xs, [], _, _, _, _, h => absurd ((h x).mp List.mem_cons_self) (by simp)
  | x :: xs, y :: ys, sx, sy, nx, ny, h => by
    have e : x = y := by
      rcases List.mem_cons.mp ((h x).mp List.mem_cons_self) with e | hx
      · exact e
      · rcases List.mem_cons.mp ((h y).mpr List.mem_cons_self) with e | hy
        · exact e.symm
        · exact str_tri (sorted_le sy x hx) (sorted_le sx y hy)
    subst e
    obtain ⟨n1, n2⟩ := List.nodup_cons.mp nx
    obtain ⟨m1, m2⟩ := List.nodup_cons.mp ny
    rw [sorted_one (xs := xs) (ys := ys) (sorted_cut sx) (sorted_cut sy) n2 m2 fun n => ?_]
    constructor
    · intro hn
      rcases List.mem_cons.mp ((h n).mp (List.mem_cons_of_mem _ hn)) with e | h'
      · exact absurd (e ▸ hn) n1
      · exact h'
    · intro hn
      rcases List.mem_cons.mp ((h n).mpr (List.mem_cons_of_mem _ hn)) with e | h'
      · exact absurd (e ▸ hn) m1
      · exact h'
theorem eqv_strs : ∀ xs ys : List Str, PyData.eqvAll (xs.map .str) (ys.map .str) = decide (xs = ys)
  | [], [] => by simp [PyData.eqvAll]
  | [], y :: ys => by simp [PyData.eqvAll]
  | x :: xs, [] => by simp [PyData.eqvAll]
  | x :: xs, y :: ys => by
    show (PyData.eqv (.str x) (.str y) && PyData.eqvAll (xs.map .str) (ys.map .str)) = _
    rw [eqv_strs xs ys]
    by_cases c : x = y <;> by_cases d : xs = ys <;> simp [PyData.eqv, c, d]
theorem dp_strs {K : PySem.W.Frag} {H : Hp} : ∀ xs : List Str, DpAll K H (xs.map V.str) (xs.map .str)
  | [] => .nil
  | x :: xs => .cons (.str x) (dp_strs xs)
/-! ### told again -/
theorem told_of {G : List (Sm Str)} {m m' : Str → Prop} {n : Str} (h : ∀ k, m k ↔ m' k) : Told G m n ↔ Told G m' n := by
  rw [show m = m' from funext fun k => propext (h k)]
theorem mem_out {M S : List Str} {k : Str} : k ∈ (M.filter fun n => !decide (n ∈ S)) ↔ k ∈ M ∧ k ∉ S := by
  rw [List.mem_filter]
  simp
theorem same_list {G : List (Sm Str)} {m m' : Str → Prop} {xs ys : List Str} (sx : sortedS xs = true) (sy : sortedS ys = true) (nx : xs.Nodup) (ny : ys.Nodup) (hx : ∀ n, n ∈ xs ↔ n ∈ nms G ∧ Told G m n) (hy : ∀ n, n ∈ ys ↔ n ∈ nms G ∧ Told G m' n) :
    xs = ys ↔ ∀ n, (∃ e ∈ G, e.nm = n) → (Told G m n ↔ Told G m' n) := by
  have nm : ∀ n, n ∈ nms G ↔ ∃ e ∈ G, e.nm = n := fun n => List.mem_map
  constructor
  · rintro rfl n hn
    have hn := (nm n).mpr hn
    exact ⟨fun h => ((hy n).mp ((hx n).mpr ⟨hn, h⟩)).2, fun h => ((hx n).mp ((hy n).mpr ⟨hn, h⟩)).2⟩
  · intro h
    refine sorted_one sx sy nx ny fun n => ?_
    rw [hx n, hy n]
    constructor
    · exact fun q => ⟨q.1, (h n ((nm n).mp q.1)).mp q.2⟩
    · exact fun q => ⟨q.1, (h n ((nm n).mp q.1)).mpr q.2⟩
/-! ### at least -/
def gF (n : Nat) : Int := (n : Int) - 1
def gM (n : Nat) : Int := ((n : Int) - 1) / 2
def atB (k : Int) : Option (List Str) → Bool
  | none => true
  | some r => decide (k ≤ (r.length : Int) - 1)
theorem atB_iff {k : Nat} : ∀ {res : Option (List Str)}, atB (k : Int) res = true ↔ AtLeast res k
  | none => ⟨(fun _ _ e => nomatch e), fun _ => rfl⟩
  | some r => by
    show decide _ = true ↔ _
    rw [decide_eq_true_eq]
    constructor
    · rintro h r' e
      cases e
      omega
    · intro h
      have := h r rfl
      omega
theorem atl {res : Option (List Str)} {k : Int} {H : Hp} {Q : VK} {E : XK} (q : Q (.bl (atB k res)) H) : spAtLeast [lenV (fun n => (n : Int) - 1) res, .int k] H Q E := by
  cases res with
  | none => exact ⟨_, _, rfl, .inl ⟨rfl, q⟩⟩
  | some r => exact ⟨_, _, rfl, .inr ⟨_, rfl, q⟩⟩
theorem atm {res res2 : Option (List Str)} (e : res.map List.length = res2.map List.length) {k : Int} {H : Hp} {Q : VK} {E : XK} (q : Q (.bl (atB (2 * k) res)) H) : spAtLeast [lenV (fun n => ((n : Int) - 1) / 2) res2, .int k] H Q E := by
  cases res with
  | none =>
    cases res2 with
    | none => exact ⟨_, _, rfl, .inl ⟨rfl, q⟩⟩
    | some r => cases e
  | some r =>
    cases res2 with
    | none => cases e
    | some r2 =>
      have e : r.length = r2.length := Option.some.inj e
      refine ⟨_, _, rfl, .inr ⟨_, rfl, ?_⟩⟩
      have h : decide (2 * k ≤ (r.length : Int) - 1) = decide (k ≤ ((r2.length : Int) - 1) / 2) := by
        rw [e]
        apply decide_eq_decide.mpr
        omega
      have q : Q (.bl (decide (2 * k ≤ (r.length : Int) - 1))) H := q
      rw [h] at q
      exact q
end Msr
end
section
/-! The law. -/
namespace Msr
open PySem PySem.Spec PyProof.Rows L2 Ms MsLow
section
variable {P : Program} {w : World} {K : PySem.W.Frag} {mg : Str → Option Value} {base : Heap} {C : Addr}
/-- [name for name in xs if name not in ys], read -/
theorem lc_out {J : PySem.W.Frag} {xs S : List Str} {l b : Addr} {i0 j0 : Nat} {vs : List Nat} {σ : L2.St} {H1 : Hp} {D : Addr} {Qd : Hp → Prop} (hS : SqL K H1 l (S.map V.str)) (hb : SqL J H1 b (xs.map V.str)) (hx : xs.length ≤ 60) (nD : H1 D = none)
    (hw : ∀ v, wipe ((wipe σ vs).set i0 v) vs = wipe σ vs) (hi : ∀ v, ((wipe σ vs).set i0 v)[i0]? = some v) (hj : ∀ v, ((wipe σ vs).set i0 v)[j0]? = some (some (.ref l)))
    (hd : ∀ H, Same H1 H → H D = some (.lst ((xs.filter fun n => !decide (n ∈ S)).map V.str)) → Qd H) :
    ∃ W : Nat → Nat → Hp → Prop, (∃ m, W 0 m (upd H1 D (.lst []))) ∧ ∀ i m H, W i m H →
      ((Itl J b).stop i H ∧ Qd H) ∨ ((Itl J b).go i H ∧ ∃ Nx : Hp → Prop, (∀ H', Nx H' → ∃ m', m' < m ∧ W (i + 1) m' H') ∧ ∀ x H', (Itl J b).yld i H x H' → gName i0 x (wipe σ vs) H' fun σ2 H2 => wipe σ2 vs = wipe σ vs ∧ tTest (tOp (rIn K true) (tVar i0) (tVar j0)) σ2 H2 fun b H3 =>
        if b = true then tVar i0 σ2 H3 fun y H4 => ∃ acc, H4 D = some (.lst acc) ∧ acc.length < sizeLine ∧ Nx (upd H4 D (.lst (acc ++ [y]))) else Nx H3) := by
  refine lc_gen (walk_list (xs := xs.map V.str)) nD (by rw [List.length_map]; omega) (fun H' s' => s'.seq hb) (fun i acc _ => acc = ((xs.take i).filter fun n => !decide (n ∈ S)).map V.str) rfl (fun _ _ _ _ _ h => h)
    (fun i acc _ h => by rw [h, List.length_map]; exact Nat.le_trans (List.length_filter_le _ _) (by rw [List.length_take]; omega)) ?_ ?_
  · rintro i v H3 H4 acc hi' s3 ha rfl ⟨rfl, hv⟩ N kT kF
    obtain ⟨x, hx, rfl⟩ := strs_getElem hv
    refine ⟨hw _, _, hi _, _, hj _, l, _, rfl, .inl (s3.seq hS), rfl, flat_strs _, !decide (x ∈ S), ?_, ?_⟩
    · show V.bl (!inV (.str x) (S.map V.str)) = _
      rw [inV_str]
    have ex := take_filter_snoc hx (fun n => !decide (n ∈ S))
    by_cases c : x ∈ S
    · refine itD' c (kF _ (Same.refl _) ?_)
      rw [ex, if_neg (by simp [c]), List.append_nil]
    · refine itN' c ⟨_, hi _, kT _ _ (Same.refl _) ?_⟩
      rw [ex, if_pos (by simp [c]), List.map_append]
      rfl
  · rintro H3 acc s3 ha3 rfl
    rw [List.length_map, List.take_length] at ha3
    exact hd H3 s3 ha3
theorem letters_low : ∀ c ∈ letters.cps.toList, c < 0x110000 := by decide +kernel
theorem can_names : ∀ xs : List Str, (∀ x ∈ xs, NameOk x) → PyData.canLayAll0 (xs.map PyData.str) = true
  | [], _ => by simp [PyData.canLayAll0]
  | x :: xs, h => by
    have h1 : PyData.canLay0 (.str x) = true := by
      simp only [PyData.canLay0]
      show x.cps.all (fun c => decide (c < 0x110000)) = true
      rw [← Array.all_toList, List.all_eq_true]
      intro c hc
      exact decide_eq_true (letters_low c ((h x List.mem_cons_self).2.2 c hc))
    show (PyData.canLay0 (.str x) && PyData.canLayAll0 (xs.map PyData.str)) = true
    rw [h1, can_names xs fun y hy => h y (List.mem_cons_of_mem _ hy)]
    rfl
theorem depth_names : ∀ xs : List Str, PyData.depthAll (xs.map PyData.str) ≤ 1
  | [] => by simp [PyData.depthAll]
  | x :: r => by
    have := depth_names r
    simp only [List.map_cons, PyData.depthAll, PyData.depth]
    omega
theorem shaped_names (xs : List Str) (h : ∀ x ∈ xs, NameOk x) : SeqAt.shaped (.list (xs.map PyData.str)) = true := by
  have h1 := depth_names xs
  have h2 : PyData.depth (.list (xs.map PyData.str)) ≤ 64 := by simp only [PyData.depth]; omega
  show (PyData.canLay0 (.list (xs.map PyData.str)) && decide (PyData.depth (.list (xs.map PyData.str)) ≤ 64)) = true
  rw [Bool.and_eq_true]
  exact ⟨by simp only [PyData.canLay0]; exact can_names xs h, decide_eq_true h2⟩
theorem and_no {c : Prop} [Decidable c] {A B : Prop} (h1 : c → B → A) (h2 : B) : if decide c = true then A else B := by
  by_cases h : c
  · exact itD h (h1 h h2)
  · exact itN h h2
theorem of_iteF {A B : Prop} (h : if (false : Bool) = true then A else B) : B := h
theorem all_snoc {bs : List Bool} {b : Bool} : (bs ++ [b]).all id = true ↔ bs.all id = true ∧ b = true := by
  rw [List.all_append, Bool.and_eq_true]
  simp
/-- the promise of _law_is_at_least, kept shut -/
@[irreducible] def spAtl : Sp := spAtLeast
theorem spAtl_eq : spAtl = spAtLeast := by
  unfold spAtl
  rfl
theorem atlS {res : Option (List Str)} {k : Int} {H : Hp} {Q : VK} {E : XK} (q : Q (.bl (atB k res)) H) : spAtl [lenV (fun n => (n : Int) - 1) res, .int k] H Q E := by
  rw [spAtl_eq]
  exact atl q
theorem atmS {res res2 : Option (List Str)} (e : res.map List.length = res2.map List.length) {k : Int} {H : Hp} {Q : VK} {E : XK} (q : Q (.bl (atB (2 * k) res)) H) : spAtl [lenV (fun n => ((n : Int) - 1) / 2) res2, .int k] H Q E := by
  rw [spAtl_eq]
  exact atm e q
abbrev nLaw : List Str := ["_law_script", "_law_numbers_here", "_law_plant_here", "_law_made_here", "_law_metered", "_law_told", "_law_found", "_law_mended", "_law_many", "_law_good", "_law_gone", "_law_alone", "_law_ring", "_law_rests", "_law_name", "_law_other", "_law_way"]
theorem sc_law : FnScope nLaw ["_law_script"] (defScope sLaw) := ⟨rfl, rfl, rfl, by decide +kernel, rfl, by decide +kernel, by decide +kernel⟩
theorem ok_law {f f1 f2 f3 f4 f5 f6 f7 f8 f9 f10 f11 : Addr} {fd fd1 fd2 fd3 fd4 fd5 fd6 fd7 fd8 fd9 fd10 fd11 : FuncData} (F : Fun K "law" "law" sLaw f fd) (T : Txt K mg C)
    (C1 : Cal P w K mg base 2 "_law_numbers" ["_law_script", "_law_many"] (spNumbers K) f1 fd1)
    (C2 : Cal P w K mg base 1 "_law_plant" ["_law_numbers_here", "_law_at", "_law_knots", "_law_streams"] (spPlant K) f2 fd2)
    (C3 : Cal P w K mg base 5 "_law_made" ["_law_plant_here"] (spMade C) f3 fd3)
    (C4 : Cal P w K mg base 1 "_law_most" ["_law_plant_here", "_law_numbers_here", "_law_at"] (spMost K) f4 fd4)
    (C5 : Cal P w K mg base 7 "told_streams" ["plant", "metered"] (spToldS K C) f5 fd5)
    (C6 : Cal P w K mg base 8 "found_up_to" ["plant", "metered"] (spLen K C fun n => (n : Int) - 1) f6 fd6)
    (C7 : Cal P w K mg base 8 "mended_up_to" ["plant", "metered"] (spLen K C fun n => ((n : Int) - 1) / 2) f7 fd7)
    (C8 : Cal P w K mg base 1 "_law_lots_of" ["_law_names", "_law_many"] (spLotsOf K) f8 fd8)
    (C9 : Cal P w K mg base 1 "_law_is_at_least" ["_law_told", "_law_many"] spAtl f9 fd9)
    (C10 : Cal P w K mg base 7 "is_told" ["plant", "metered", "name"] (spIsTold K C) f10 fd10)
    (C11 : Cal P w K mg base 6 "least_ring" ["plant", "metered"] (spLeast K C) f11 fd11) :
    FnOk P w K mg base CX0 9 f fd ["_law_script"] (spLaw K) := by
  refine F.ok sc_law (fun vs H Q E h => ?_) (fun cdv A outer s H vs Q E hr h => ?_)
  · obtain ⟨a, ns, rfl, _⟩ := h
    rfl
  · obtain ⟨a, ns, rfl, ha, hlen, q⟩ := h
    have hr1 : Room 1 _ := hr.mono (by decide)
    have hr2 : Room 2 _ := hr.mono (by decide)
    have hr5 : Room 5 _ := hr.mono (by decide)
    have hr6 : Room 6 _ := hr.mono (by decide)
    have hr7 : Room 7 _ := hr.mono (by decide)
    refine ⟨_, pss_cons (ps_set (i := 1) sc_law.nd rfl (.inl rfl) (pe_call C1.ok hr2 rfl C1.mg_ C1.kp C1.bd .nil pass0 (pa_cons (pv 0) (pa_cons pe_int pa_nil))))
      (pss_cons (ps_set (i := 2) sc_law.nd rfl (.inl rfl) (pe_call C2.ok hr1 rfl C2.mg_ C2.kp C2.bd .nil pass0 (pa_cons (pv 1) (pa_cons pe_int (pa_cons pe_int (pa_cons pe_int pa_nil))))))
      (pss_cons (ps_set (i := 3) sc_law.nd rfl (.inr rfl) (pe_call C3.ok hr5 rfl C3.mg_ C3.kp C3.bd .nil pass0 (pa_cons (pv 2) pa_nil)))
      (pss_cons (ps_set (i := 4) sc_law.nd rfl (.inr rfl) (pe_call C4.ok hr1 rfl C4.mg_ C4.kp C4.bd .nil pass0 (pa_cons (pv 2) (pa_cons (pv 1) (pa_cons pe_int pa_nil)))))
      (pss_cons (ps_set (i := 5) sc_law.nd rfl (.inl rfl) (pe_call C5.ok hr7 rfl C5.mg_ C5.kp C5.bd .nil pass0 (pa_cons (pv 3) (pa_cons (pv 4) pa_nil))))
      (pss_cons (ps_par (i := 6) (j := 7) (by rfl) sc_law.nd rfl rfl (by decide) rfl rfl (pa_cons (pe_call C6.ok hr rfl C6.mg_ C6.kp C6.bd .nil pass0 (pa_cons (pv 3) (pa_cons (pv 4) pa_nil))) (pa_cons (pe_call C7.ok hr rfl C7.mg_ C7.kp C7.bd .nil pass0 (pa_cons (pv 3) (pa_cons (pv 4) pa_nil))) pa_nil)) (by rfl))
      (pss_cons (ps_for PassesOwn.never rfl (pi_range2 rfl T.range (pa_cons pe_int (pa_cons pe_int pa_nil))) (pg_name (i := 8) sc_law.nd rfl (Or.inl rfl))
        (pss_cons (ps_set (i := 9) sc_law.nd rfl (.inl rfl) pe_bl)
        (pss_cons (ps_for PassesOwn.never rfl (pi_list (pe_call C8.ok hr1 rfl C8.mg_ C8.kp C8.bd .nil pass0 (pa_cons (pv 4) (pa_cons (pv 8) pa_nil)))) (pg_name (i := 10) sc_law.nd rfl (Or.inr rfl))
          (pss_one (ps_set (i := 9) sc_law.nd rfl (.inl rfl) (pe_and (pv 9) (pe_one (pe_cmpR (op_eqD hr.units) (pe_call C5.ok hr7 rfl C5.mg_ C5.kp C5.bd .nil pass0 (pa_cons (pv 3) (pa_cons
            (pe_lc (own := [("_law_name", 14)]) (g := gName 14) (by rfl) sc_law.nd (pi_list (pv 4)) (blkOk_by (own := [("_law_name", 14)]) (N := nLaw) (sc := defScope sLaw) (by decide +kernel))
              (fun _ _ _ _ _ => pg_name (i := 14) sc_law.nd rfl (Or.inl rfl)) (fun _ _ _ _ _ => pts_one (pt_cmpR (r := rIn K true) op_notIn_seq (pv 14) (pv 10) (by rfl))) (fun _ _ _ _ _ => pv 14)) pa_nil))) (pv 5) (nomark _)))))))
        (pss_cons (ps_if (PW.pt (pw_and (pt_cmpR op_ge (pe_callB call_len_seq (by rfl) T.len PySem.boot_len (pa_cons (pv 4) pa_nil)) (pv 8) (nomark _))
            (pw_and1 (pt_cmpR op_ne (pv 9) (pe_call C9.ok hr1 rfl C9.mg_ C9.kp C9.bd .nil pass0 (pa_cons (pv 6) (pa_cons (pv 8) pa_nil))) (nomark _))))) (pss_one (ps_ret pe_bl)) pss_nil)
        (pss_one (ps_if (pt_cmpR op_ne (pe_call C9.ok hr1 rfl C9.mg_ C9.kp C9.bd .nil pass0 (pa_cons (pv 7) (pa_cons (pv 8) pa_nil))) (pe_call C9.ok hr1 rfl C9.mg_ C9.kp C9.bd .nil pass0 (pa_cons (pv 6) (pa_cons (pe_op op_mul pe_int (pv 8)) pa_nil))) (nomark _))
          (pss_one (ps_ret pe_bl)) pss_nil))))))
      (pss_cons (ps_setLc (i := 11) (own := [("_law_name", 14)]) (g := gName 14) (by rfl) sc_law.nd rfl rfl (sw_true rfl rfl rfl (by decide +kernel)) (pi_list (pv 4)) (blkOk_by (own := [("_law_name", 14)]) (N := nLaw) (sc := defScope sLaw) (by decide +kernel))
        (fun _ _ _ _ _ => pg_name (i := 14) sc_law.nd rfl (Or.inr rfl)) (fun _ _ _ _ _ => pts_nil) (fun _ _ _ _ _ => pe_call C10.ok hr7 rfl C10.mg_ C10.kp C10.bd .nil pass0 (pa_cons (pv 3) (pa_cons
          (pe_lc (own := [("_law_other", 15)]) (wi := iList K (tVar 4)) (g := gName 15) (by rfl) sc_law.nd (pi_list (pv 4)) (blkOk_by (own := [("_law_other", 15)]) (N := nLaw) (sc := relS _ (defScope sLaw)) (by decide +kernel))
            (fun _ _ _ _ _ => pg_name (i := 15) sc_law.nd rfl (Or.inl rfl)) (fun _ _ _ _ _ => pts_one (pt_cmpR op_ne (pv 15) (pv 14) (nomark _))) (fun _ _ _ _ _ => pv 15)) (pa_cons (pv 14) pa_nil)))))
      (pss_cons (ps_if (PW.pt (pw_and (pt_cmpR op_gt (pe_callB call_len_seq (by rfl) T.len PySem.boot_len (pa_cons (pv 4) pa_nil)) pe_int (nomark _))
          (pw_and1 (pt_cmpR op_ne (pe_callB (cr_all rfl) (by rfl) T.all (by decide +kernel) (pa_cons (pv 11) pa_nil)) (pe_call C9.ok hr1 rfl C9.mg_ C9.kp C9.bd .nil pass0 (pa_cons (pv 6) (pa_cons pe_int pa_nil))) (nomark _))))) (pss_one (ps_ret pe_bl)) pss_nil)
      (pss_cons (ps_set (i := 12) sc_law.nd rfl (.inl rfl) (pe_call C11.ok hr6 rfl C11.mg_ C11.kp C11.bd .nil pass0 (pa_cons (pv 3) (pa_cons (pv 4) pa_nil))))
      (pss_cons (ps_if (pt_cmpR op_ne (pe_cmpR op_isN (pv 12) pe_non (nomark _)) (pe_cmpR op_isN (pv 6) pe_non (nomark _)) (nomark _)) (pss_one (ps_ret pe_bl)) pss_nil)
      (pss_cons (ps_if (pt_cmpR op_isN (pv 12) pe_non (nomark _)) (pss_one (ps_ret (pe_cmpR op_isN (pv 7) pe_non (nomark _)))) pss_nil)
      (pss_cons (ps_set (i := 10) sc_law.nd rfl (.inr rfl) (pe_lc (own := [("_law_name", 14), ("_law_way", 16)]) (g := gTup K 2 (gCons (gName 14) (gCons (gName 16) gNil))) (by rfl) sc_law.nd (pi_list (pv 12)) (blkOk_by (own := [("_law_name", 14), ("_law_way", 16)]) (N := nLaw) (sc := defScope sLaw) (by decide +kernel))
        (fun _ _ _ _ _ => pg_tup (by rfl) (pgs_cons (pg_name (i := 14) sc_law.nd rfl (.inl rfl)) (pgs_cons (pg_name (i := 16) sc_law.nd rfl (.inl rfl)) pgs_nil))) (fun _ _ _ _ _ => pts_nil) (fun _ _ _ _ _ => pv 14)))
      (pss_cons (ps_set (i := 13) sc_law.nd rfl (.inr rfl) (pe_lc (own := [("_law_name", 14)]) (g := gName 14) (by rfl) sc_law.nd (pi_list (pv 4)) (blkOk_by (own := [("_law_name", 14)]) (N := nLaw) (sc := defScope sLaw) (by decide +kernel))
        (fun _ _ _ _ _ => pg_name (i := 14) sc_law.nd rfl (Or.inl rfl)) (fun _ _ _ _ _ => pts_one (pt_cmpR (r := rIn K true) op_notIn_seq (pv 14) (pv 10) (by rfl))) (fun _ _ _ _ _ => pv 14)))
      (pss_cons (ps_if (PW.pt (pw_or (pt_cmpR op_ne (pe_callB call_len_seq (by rfl) T.len PySem.boot_len (pa_cons (pv 10) pa_nil)) (pe_op op_add (pv 6) pe_int) (nomark _)) (pw_or1 (pt_val (pe_callB (cr_any rfl) (by rfl) T.any (by decide +kernel) (pa_cons
          (pe_lc (own := [("_law_name", 14)]) (g := gName 14) (by rfl) sc_law.nd (pi_list (pv 10)) (blkOk_by (own := [("_law_name", 14)]) (N := nLaw) (sc := defScope sLaw) (by decide +kernel))
            (fun _ _ _ _ _ => pg_name (i := 14) sc_law.nd rfl (Or.inl rfl)) (fun _ _ _ _ _ => pts_nil) (fun _ _ _ _ _ => pe_call C10.ok hr7 rfl C10.mg_ C10.kp C10.bd .nil pass0 (pa_cons (pv 3) (pa_cons (pv 13) (pa_cons (pv 14) pa_nil))))) pa_nil)))))) (pss_one (ps_ret pe_bl)) pss_nil)
      (pss_one (ps_ret (pe_callB (cr_all rfl) (by rfl) T.all (by decide +kernel) (pa_cons
          (pe_lc (own := [("_law_name", 14)]) (g := gName 14) (by rfl) sc_law.nd (pi_list (pv 10)) (blkOk_by (own := [("_law_name", 14)]) (N := nLaw) (sc := defScope sLaw) (by decide +kernel))
            (fun _ _ _ _ _ => pg_name (i := 14) sc_law.nd rfl (Or.inl rfl)) (fun _ _ _ _ _ => pts_nil) (fun _ _ _ _ _ => pe_call C10.ok hr7 rfl C10.mg_ C10.kp C10.bd .nil pass0 (pa_cons (pv 3) (pa_cons (pe_op op_cat (pv 13) (pe_lst (pa_cons (pe_ix (r := rIxL K) ix_list (pv 10) pe_int (fun _ _ => rfl)) pa_nil))) (pa_cons (pv 14) pa_nil))))) pa_nil)))))))))))))))))), ?_⟩
    refine ⟨_, rfl, a, ns, rfl, ha, hlen, fun nl H1 xs s1 hnl hxl hx => ?_⟩
    -- the plant
    refine ⟨_, rfl, nl, xs, rfl, sq hnl, hxl, hx, fun t H2 kn0 L s2 hD => ?_⟩
    refine ⟨_, rfl, t, kn0, L, rfl, hD, fun p H3 kn G s3 hp hG => ?_⟩
    refine ⟨_, rfl, _, rfl, t, nl, kn0, L, xs, rfl, hD.same s3, sq (s3 _ _ (s2 _ _ hnl)), hxl, hx, fun ml H4 M s4 hml ndM hML => ?_⟩
    have wf := hp.wf
    have uq := wf.uq
    have hM : ∀ n ∈ M, n ∈ nms G := fun n hn => (hG n).mpr (hML n hn)
    have nmM : ∀ n ∈ M, ∃ e ∈ G, e.nm = n := fun n hn => List.mem_map.mp (hM n hn)
    have hMl : M.length ≤ 9 := by
      obtain ⟨_, _, _, _, _, _, _, hl⟩ := hD
      have := nodup_sub_len ndM hML
      rw [List.length_map] at this
      omega
    have mrg := theW_mrg wf M
    have hok : ∀ x ∈ nms G, NameOk x := fun x hx => by
      obtain ⟨e, he, rfl⟩ := List.mem_map.mp hx
      exact (wf.gok e he).1
    have hp4 := hp.same s4
    have hn4 : NamesAt K H4 ml G M := ⟨sq hml, ndM, hM⟩
    refine ⟨_, rfl, _, rfl, p, ml, kn, G, M, rfl, hp4, hn4, hml, fun tl H5 ys s5 htl sy ny hy => ?_⟩
    refine ⟨_, rfl, _, rfl, p, ml, kn, G, M, rfl, hp4.same s5, hn4.same s5, fun H6 res s6 lst => ?_⟩
    have s56 := s5.trans s6
    refine ⟨_, rfl, _, rfl, p, ml, kn, G, M, rfl, hp4.same s56, hn4.same s56, fun H7 res2 s7 lst2 => ?_⟩
    have s57 := s56.trans s7
    have er := lst.same lst2
    refine ⟨_, _, rfl, ?_⟩
    refine ⟨1, 4, rfl, ⟨by decide, by decide, by decide, by decide⟩, for_range (lo := 1) (n := (4 - 1 : Int).toNat) (fun i σ H' => Same H7 H' ∧ ∃ v8 v9 v10 : Option V, σ = [some (.ref a), some (.ref nl), some (.ref t), some (.ref p), some (.ref ml), some (.ref tl), some (lenV (fun n => (n : Int) - 1) res), some (lenV (fun n => ((n : Int) - 1) / 2) res2), v8, v9, v10, none, none, none, none, none, none])
      ⟨Same.refl _, none, none, none, rfl⟩ ?_ ?_⟩
    · rintro i σ H8 hi ⟨s8, v8, v9, v10, rfl⟩
      have hi : i < 3 := hi
      have u8 : Same H5 H8 := s6.trans (s7.trans s8)
      have s58 := s57.trans s8
      have hml8 := s58 _ _ hml
      refine ⟨_, rfl, _, rfl, ml, M, i + 1, by rw [show (1 : Int) + (i : Int) = ((i + 1 : Nat) : Int) by omega]; rfl, sq hml8, hMl, fun r H9 Ss s9 hr9 hSs hSm hSl => ?_⟩
      have s59 := s58.trans s9
      have hM9 := hp4.same s59
      refine ⟨r, rfl, ⟨_, sq hr9⟩, for_list (K := K) (a := r) (xs := Ss.map fun q : Addr × List Str => V.ref q.1) (fun j σ H' => Same H9 H' ∧ ∃ (g : Bool) (v10 : Option V), σ = [some (.ref a), some (.ref nl), some (.ref t), some (.ref p), some (.ref ml), some (.ref tl), some (lenV (fun n => (n : Int) - 1) res), some (lenV (fun n => ((n : Int) - 1) / 2) res2), some (.int (1 + (i : Int))), some (.bl g), v10, none, none, none, none, none, none] ∧
          (g = true ↔ ∀ S ∈ (Ss.take j).map (·.2), ∀ n, (∃ e ∈ G, e.nm = n) → (Told G (fun k => k ∈ M ∧ k ∉ S) n ↔ Told G (· ∈ M) n)))
        ⟨Same.refl _, true, v10, rfl, ⟨fun _ S hS => by simp at hS, fun _ => rfl⟩⟩ (fun j σ H' _ h => sq (h.1 _ _ hr9)) ?_ ?_⟩
      · rintro j v σ H10 hv ⟨s10, g, v10', rfl, hg⟩
        obtain ⟨z, hz, rfl⟩ := lots_at (H := H) hv
        have hzm := List.mem_of_getElem? hz
        have hz10 := s10 _ _ (hSs z hzm)
        have tk : (Ss.take (j + 1)).map (·.2) = (Ss.take j).map (·.2) ++ [z.2] := by rw [List.take_add_one, hz, List.map_append]; rfl
        have s510 := s59.trans s10
        refine ⟨_, rfl, g, rfl, ?_⟩
        cases g with
        | false =>
          refine iteF ⟨s10, false, _, rfl, ⟨(fun h => nomatch h), fun h => hg.mpr fun S hS => h S ?_⟩⟩
          rw [tk]
          exact List.mem_append_left _ hS
        | true =>
          refine iteT ?_
          have hg := hg.mp rfl
          have hml10 := s510 _ _ hml
          refine ⟨_, rfl, _, rfl, ml, rfl, ⟨_, sq hml10⟩, fun D nD => ?_⟩
          refine lc_out (xs := M) (S := z.2) (l := z.1) (b := ml) (sq hz10) (sq hml10) (by omega) nD (fun _ => rfl) (fun _ => rfl) (fun _ => rfl) fun H11 s11 h11 => ?_
          have s511 := s510.trans s11
          have hn11 : NamesAt K H11 D G (M.filter fun n => !decide (n ∈ z.2)) := ⟨sq h11, ndM.sublist List.filter_sublist, fun n hn => hM n (mem_out.mp hn).1⟩
          refine ⟨p, D, kn, G, _, rfl, hp4.same s511, hn11, h11, fun tl2 H12 zs s12 htl2 sz nz hz2 => ?_⟩
          have s512 := s511.trans s12
          refine ⟨_, rfl, .list (zs.map .str), .list (ys.map .str), .lst (sq htl2) (dp_strs zs), .lst (sq (u8.trans (s9.trans (s10.trans (s11.trans s12))) _ _ htl)) (dp_strs ys), shaped_names zs (fun x hx => hok x ((hz2 x).mp hx).1), shaped_names ys (fun x hx => hok x ((hy x).mp hx).1), ?_⟩
          refine ⟨s10.trans (s11.trans s12), _, _, rfl, ?_⟩
          show PyData.eqvAll (zs.map .str) (ys.map .str) = true ↔ _
          rw [eqv_strs, decide_eq_true_eq, same_list sz sy nz ny hz2 hy]
          have tz : ∀ n, Told G (fun k => k ∈ M.filter fun n => !decide (n ∈ z.2)) n ↔ Told G (fun k => k ∈ M ∧ k ∉ z.2) n := fun n => told_of fun k => mem_out
          constructor
          · intro h S hS n hn
            rw [tk] at hS
            rcases List.mem_append.mp hS with hS | hS
            · exact hg S hS n hn
            · rw [List.mem_singleton.mp hS, ← tz n]
              exact h n hn
          · intro h n hn
            rw [tz n]
            exact h z.2 (by rw [tk]; exact List.mem_append_right _ (List.mem_singleton.mpr rfl)) n hn
      · rintro σ H10 ⟨s10, g, v10', rfl, hg⟩
        rw [List.length_map, List.take_length] at hg
        have s510 := s59.trans s10
        have hml10 := s510 _ _ hml
        have hgk : i + 1 ≤ M.length → g = atB (1 + (i : Int)) res := fun hk => by
          have o := out_iff uq nmM ndM mrg lst hk
          rw [Bool.eq_iff_iff, hg, show (1 : Int) + (i : Int) = ((i + 1 : Nat) : Int) by omega, atB_iff, ← o]
          constructor
          · intro h S h1 h2
            exact h S ((hSm S).mpr ⟨h1, h2⟩)
          · intro h S hS
            obtain ⟨h1, h2⟩ := (hSm S).mp hS
            exact h S h1 h2
        have two : 2 * (1 + (i : Int)) = 2 * (1 + (i : Int)) := rfl
        -- the second test
        refine ⟨_, rfl, ml, _, rfl, .inl (sq hml10), _, rfl, _, _, rfl, rfl, _, rfl, ?_⟩
        rw [List.length_map]
        have nxt : Same H7 H10 := s8.trans (s9.trans s10)
        by_cases c : i + 1 ≤ M.length
        · refine itD (by omega) ⟨_, rfl, _, rfl, _, rfl, ?_⟩
          refine atlS ?_
          refine ⟨rfl, _, rfl, itD' (by rw [hgk c]) ?_⟩
          refine ⟨_, rfl, _, rfl, ?_⟩
          refine atmS er ?_
          refine ⟨_, rfl, _, rfl, _, _, rfl, rfl, .inl ⟨by decide, by decide⟩, ?_⟩
          refine atlS ?_
          exact ⟨rfl, _, rfl, itD' rfl ⟨nxt, _, _, _, rfl⟩⟩
        · refine itN (by omega) (iteF ?_)
          refine ⟨_, rfl, _, rfl, ?_⟩
          refine atmS er ?_
          refine ⟨_, rfl, _, rfl, _, _, rfl, rfl, .inl ⟨by decide, by decide⟩, ?_⟩
          refine atlS ?_
          exact ⟨rfl, _, rfl, itD' rfl ⟨nxt, _, _, _, rfl⟩⟩
    · rintro σ H8 ⟨s8, v8, v9, v10, rfl⟩
      have s58 := s57.trans s8
      have hml8 := s58 _ _ hml
      -- alone
      refine ⟨_, rfl, ml, rfl, ⟨_, sq hml8⟩, fun D nD => ?_⟩
      refine lc_all (walk_list (xs := M.map V.str)) nD (by rw [List.length_map]; omega) (fun H' s' => sq (s' _ _ hml8)) (fun i acc _ => ∃ bs : List Bool, acc = bs.map V.bl ∧ bs.length = i ∧ (bs.all id = true ↔ ∀ n ∈ M.take i, Told G (fun j => j ∈ M ∧ j ≠ n) n))
        ⟨[], rfl, rfl, ⟨fun _ n hn => by simp at hn, fun _ => rfl⟩⟩ (fun _ _ _ _ _ h => h) (fun i acc _ h => by
          obtain ⟨bs, rfl, h, _⟩ := h
          rw [List.length_map]
          omega) ?_ ?_
      · rintro i v H9 H10 acc hi s9 hacc ⟨bs, rfl, hbl, hb⟩ ⟨rfl, hv⟩ N kT
        obtain ⟨x, hx, rfl⟩ := strs_getElem hv
        have hxm := List.mem_of_getElem? hx
        have tk : M.take (i + 1) = M.take i ++ [x] := by rw [List.take_add_one, hx]; rfl
        have hml9 := s9 _ _ hml8
        refine ⟨rfl, _, rfl, _, rfl, ml, rfl, ⟨_, sq hml9⟩, fun D2 nD2 => ?_⟩
        refine lc_gen (walk_list (xs := M.map V.str)) nD2 (by rw [List.length_map]; omega) (fun H' s' => sq (s' _ _ hml9)) (fun i acc _ => acc = ((M.take i).filter fun n => !decide (n = x)).map V.str) rfl (fun _ _ _ _ _ h => h)
          (fun i acc _ h => by rw [h, List.length_map]; exact Nat.le_trans (List.length_filter_le _ _) (by rw [List.length_take]; omega)) ?_ ?_
        · rintro j v H10 H11 acc hj s10 ha rfl ⟨rfl, hv⟩ N2 kT2 kF2
          obtain ⟨y, hy2, rfl⟩ := strs_getElem hv
          have ex := take_filter_snoc hy2 (fun n => !decide (n = x))
          refine ⟨rfl, _, rfl, _, rfl, rfl, _, rfl, ?_⟩
          by_cases c : y = x
          · refine itD' (by rw [c]) (kF2 _ (Same.refl _) ?_)
            rw [ex, if_neg (by simp [c]), List.append_nil]
          · refine itN' (fun h => c (V.str.inj h)) ⟨_, rfl, kT2 _ _ (Same.refl _) ?_⟩
            rw [ex, if_pos (by simp [c]), List.map_append]
            rfl
        · rintro H11 acc s11 ha11 rfl
          rw [List.length_map, List.take_length] at ha11
          have s811 := s58.trans (s9.trans s11)
          have mo : ∀ k, k ∈ (M.filter fun n => !decide (n = x)) ↔ k ∈ M ∧ k ≠ x := fun k => by
            rw [List.mem_filter]
            simp
          refine ⟨_, rfl, p, D2, x, kn, G, _, rfl, hp4.same s811, ⟨sq ha11, ndM.sublist List.filter_sublist, fun n hn => hM n ((mo n).mp hn).1⟩, hM x hxm, fun b H12 s12 hb2 => ?_⟩
          refine kT _ _ (s11.trans s12) ⟨bs ++ [b], by rw [List.map_append]; rfl, by rw [List.length_append, hbl]; rfl, ?_⟩
          rw [all_snoc, hb, hb2, tk, told_of mo]
          constructor
          · rintro ⟨h1, h2⟩ n hn
            rcases List.mem_append.mp hn with hn | hn
            · exact h1 n hn
            · rw [List.mem_singleton.mp hn]
              exact h2
          · intro h
            exact ⟨fun n hn => h n (List.mem_append_left _ hn), h x (List.mem_append_right _ (List.mem_singleton.mpr rfl))⟩
      rintro H9 acc s9 ha9 ⟨bs, rfl, hbl, hb⟩
      rw [List.length_map, List.take_length] at hb
      have s59 := s58.trans s9
      have hml9 := s59 _ _ hml
      have hall : bs.all id = atB 1 res := by
        rw [Bool.eq_iff_iff, hb, alone_iff uq nmM mrg lst]
        exact (atB_iff (k := 1)).symm
      refine ⟨_, rfl, ml, _, rfl, .inl (sq hml9), _, _, rfl, rfl, _, rfl, and_no (fun hc hB => ?_) (iteF ?_)⟩
      · refine ⟨_, rfl, D, bs, rfl, sq ha9, _, rfl, ?_⟩
        refine atlS ?_
        exact ⟨rfl, _, rfl, itD' (by rw [hall]) (of_iteF hB)⟩
      -- the least ring
      refine ⟨_, rfl, _, rfl, p, ml, kn, G, M, rfl, hp4.same s59, hn4.same s59, fun H10 s10 lst3 => ?_, fun r H10 R s10 hr10 hR lst3 hRl => ?_⟩
      · have e := lst.same lst3
        cases res with
        | some _ => cases e
        | none =>
          cases res2 with
          | some _ => cases er
          | none =>
            refine ⟨_, rfl, rfl, _, rfl, rfl, rfl, _, rfl, itD' rfl ?_⟩
            refine ⟨_, rfl, rfl, true, rfl, iteT ?_⟩
            exact ⟨_, rfl, rfl, q _⟩
      have e := lst.same lst3
      cases res with
      | none => cases e
      | some r0 =>
        have e : r0.length = (rnm R).length := Option.some.inj e
        have eR : (rnm R).length = R.length := by unfold rnm; rw [List.length_map]
        refine ⟨_, rfl, rfl, _, rfl, rfl, rfl, _, rfl, itD' rfl ?_⟩
        refine ⟨_, rfl, rfl, false, rfl, iteF ?_⟩
        have s510 := s59.trans s10
        have hin := ring_in mrg lst3
        -- the names of the ring
        refine ⟨_, rfl, r, rfl, ⟨_, sq hr10⟩, fun D3 nD3 => ?_⟩
        refine lc_all (walk_list (xs := R.map fun q : Addr × Str × Int => V.ref q.1)) nD3 (by rw [List.length_map]; omega) (fun H' s' => sq (s' _ _ hr10)) (fun i acc _ => acc = (rnm (R.take i)).map V.str) rfl (fun _ _ _ _ _ h => h)
          (fun i acc _ h => by rw [h, List.length_map]; unfold rnm; rw [List.length_map, List.length_take]; omega) ?_ ?_
        · rintro i v H11 H12 acc hi s11 hacc rfl ⟨rfl, hv⟩ N kT
          rw [List.getElem?_map] at hv
          obtain ⟨z, hz, rfl⟩ := Option.map_eq_some_iff.mp hv
          refine ⟨_, _, rfl, st (s11 _ _ (hR z (List.mem_of_getElem? hz))), rfl, _, _, rfl, _, _, rfl, rfl, rfl, _, rfl, kT _ _ (Same.refl _) ?_⟩
          unfold rnm
          rw [List.take_add_one, hz, List.map_append, List.map_append]
          rfl
        rintro H11 acc s11 ha11 rfl
        rw [List.length_map, List.take_length] at ha11
        have s511 := s510.trans s11
        have hml11 := s511 _ _ hml
        -- the rest of the metered
        refine ⟨_, rfl, ml, rfl, ⟨_, sq hml11⟩, fun D4 nD4 => ?_⟩
        refine lc_out (xs := M) (S := rnm R) (l := D3) (b := ml) (sq ha11) (sq hml11) (by omega) nD4 (fun _ => rfl) (fun _ => rfl) (fun _ => rfl) fun H12 s12 h12 => ?_
        have s512 := s511.trans s12
        have hg12 := s12 _ _ ha11
        -- its length
        refine ⟨_, rfl, D3, _, rfl, .inl (sq hg12), _, rfl, _, _, rfl, rfl, rfl, _, rfl, itD' ?_ ?_⟩
        · rw [List.length_map]
          congr 1
          show ((rnm R).length : Int) = ((r0.length : Int) - 1) + 1
          omega
        -- no one of them is told
        refine ⟨_, rfl, D3, rfl, ⟨_, sq hg12⟩, fun D5 nD5 => ?_⟩
        refine lc_all (walk_list (xs := (rnm R).map V.str)) nD5 (by rw [List.length_map]; omega) (fun H' s' => sq (s' _ _ hg12)) (fun i acc _ => ∃ bs : List Bool, acc = bs.map V.bl ∧ bs.length = i ∧ bs.any id = false)
          ⟨[], rfl, rfl, rfl⟩ (fun _ _ _ _ _ h => h) (fun i acc _ h => by
            obtain ⟨bs, rfl, h, _⟩ := h
            rw [List.length_map]
            omega) ?_ ?_
        · rintro i v H13 H14 acc hi s13 hacc ⟨bs, rfl, hbl, hb⟩ ⟨rfl, hv⟩ N kT
          obtain ⟨x, hx, rfl⟩ := strs_getElem hv
          have hxm := List.mem_of_getElem? hx
          have s513 := s512.trans s13
          refine ⟨rfl, _, rfl, _, rfl, _, rfl, p, D4, x, kn, G, M.filter fun n => !decide (n ∈ rnm R), rfl, hp4.same s513, ⟨sq (s13 _ _ h12), ndM.sublist List.filter_sublist, fun n hn => hM n (mem_out.mp hn).1⟩, hM x (hin x hxm), fun b H15 s15 hb2 => ?_⟩
          have bf : b = false := by
            cases b with
            | false => rfl
            | true => exact absurd ((told_of fun k => mem_out).mp (hb2.mp rfl)) (ring_untold uq nmM mrg lst3 hxm)
          refine kT _ _ s15 ⟨bs ++ [b], by rw [List.map_append]; rfl, by rw [List.length_append, hbl]; rfl, ?_⟩
          rw [List.any_append, hb, bf]
          rfl
        rintro H13 acc s13 ha13 ⟨bs2, rfl, hbl2, hb2⟩
        refine ⟨D5, bs2, rfl, sq ha13, false, by rw [hb2], iteF ?_⟩
        -- but with one meter all are
        have hg13 := s13 _ _ hg12
        have s513 := s512.trans s13
        have h13 := s13 _ _ h12
        obtain ⟨c, rest, hc⟩ : ∃ c rest, rnm R = c :: rest := by
          obtain ⟨⟨f, hf, rest, h, _⟩, _⟩ := lst3
          exact ⟨_, rest, h⟩
        refine ⟨_, rfl, D3, rfl, ⟨_, sq hg13⟩, fun D6 nD6 => ?_⟩
        refine lc_all (walk_list (xs := (rnm R).map V.str)) nD6 (by rw [List.length_map]; omega) (fun H' s' => sq (s' _ _ hg13)) (fun i acc _ => ∃ bs : List Bool, acc = bs.map V.bl ∧ bs.length = i ∧ bs.all id = true)
          ⟨[], rfl, rfl, rfl⟩ (fun _ _ _ _ _ h => h) (fun i acc _ h => by
            obtain ⟨bs, rfl, h, _⟩ := h
            rw [List.length_map]
            omega) ?_ ?_
        · rintro i v H14 H15 acc hi s14 hacc ⟨bs, rfl, hbl, hb⟩ ⟨rfl, hv⟩ N kT
          obtain ⟨x, hx, rfl⟩ := strs_getElem hv
          have hxm := List.mem_of_getElem? hx
          have s514 := s513.trans s14
          refine ⟨rfl, _, rfl, _, rfl, _, rfl, D3, _, _, _, rfl, rfl, sq (s14 _ _ hg13), at_of (j := 0) (v := V.str c) (by omega) (by rw [hc]; rfl), by show 1 ≤ sizeLine; decide, fun a1 na1 => ?_⟩
          refine gen na1 _ ?_
          intro H16 s16 ha1
          refine ⟨D4, a1, _, _, rfl, rfl, s16 _ _ (s14 _ _ h13), ha1, Nat.le_of_lt (small1000 (by
            rw [List.length_map]
            have := List.length_filter_le (fun n => !decide (n ∈ rnm R)) M
            show _ + 1 ≤ 1000
            omega)), fun p1 np1 => ?_⟩
          refine gen np1 _ ?_
          intro H17 s17 hp1
          rw [show (M.filter fun n => !decide (n ∈ rnm R)).map V.str ++ [V.str c] = ((M.filter fun n => !decide (n ∈ rnm R)) ++ [c]).map V.str by rw [List.map_append]; rfl] at hp1
          have s1417 := s16.trans s17
          have mo : ∀ k, k ∈ (M.filter fun n => !decide (n ∈ rnm R)) ++ [c] ↔ (k ∈ M ∧ k ∉ c :: rest) ∨ k = c := fun k => by
            rw [List.mem_append, mem_out, List.mem_singleton, hc]
          have hcM : c ∈ M := hin c (by rw [hc]; exact List.mem_cons_self)
          refine ⟨_, rfl, p, p1, x, kn, G, _, rfl, hp4.same (s514.trans s1417), ⟨sq hp1, nd_snoc (ndM.sublist List.filter_sublist) (fun h => (mem_out.mp h).2 (by rw [hc]; exact List.mem_cons_self)), fun n hn => ?_⟩, hM x (hin x hxm), fun b H18 s18 hb3 => ?_⟩
          · rcases (mo n).mp hn with h | h
            · exact hM n h.1
            · rw [h]
              exact hM c hcM
          · have bt : b = true := by
              refine hb3.mpr ((told_of mo).mpr ?_)
              rw [hc] at lst3 hxm
              exact ring_told uq nmM mrg lst3 hxm
            refine kT _ _ (s1417.trans s18) ⟨bs ++ [b], by rw [List.map_append]; rfl, by rw [List.length_append, hbl]; rfl, all_snoc.mpr ⟨hb, bt⟩⟩
        rintro H14 acc s14 ha14 ⟨bs3, rfl, hbl3, hb3⟩
        refine ⟨D6, bs3, rfl, sq ha14, ?_⟩
        rw [hb3]
        exact q _
end
end Msr
end
section
/-! The end. -/
namespace Msr
open PySem PySem.Spec PyProof.Rows L2 Ms MsLow
/-! ### what the top has written (each a fact that k_is finds), and the law's own head -/
theorem all_mk {l : PySem.W.OpenLaw} {w : World} {K : PySem.W.Frag} {h : Heap} {mg : Str → Option Value} {fa C : Addr} (X : K.In h) (G : h.Ns mainGlobals mg) (hfa : mg "law" = some (.ref fa))
    {fisname farenames fisstream finit fknots fstreams fnames fnamed fcheck fends ftied flots fsteps flevels fring fbridges fmerged funm funtold fistold ftolds fleast flength ffound fmended frow fnumbers fplant fmade fmost flotsof fatleast flaw pknots pstreams : Addr} {rknots rstreams : List Value} {tl1 tl2 tl3 tl4 : Tok}
    {odisname anisname odarenames anarenames odisstream anisstream odinit aninit odknots anknots odstreams anstreams odnames annames odnamed annamed odcheck ancheck odends anends odtied antied odlots anlots odsteps ansteps odlevels anlevels odring anring odbridges anbridges odmerged anmerged odunm anunm oduntold anuntold odistold anistold odtolds antolds odleast anleast odlength anlength odfound anfound odmended anmended odrow anrow odnumbers annumbers odplant anplant odmade anmade odmost anmost odlotsof anlotsof odatleast anatleast odlaw anlaw : Option Addr} {slisname slarenames slisstream slinit slknots slstreams slnames slnamed slcheck slends sltied sllots slsteps sllevels slring slbridges slmerged slunm sluntold slistold sltolds slleast sllength slfound slmended slrow slnumbers slplant slmade slmost sllotsof slatleast sllaw : Array (Option Value)}
    {ocisname kVisname dcisname pmisname cdisname ctisname ocarenames kVarenames dcarenames pmarenames cdarenames ctarenames ocisstream kVisstream dcisstream pmisstream cdisstream ctisstream ocinit kVinit dcinit pminit cdinit ctinit ocknots kVknots dcknots pmknots cdknots ctknots ocstreams kVstreams dcstreams pmstreams cdstreams ctstreams ocnames kVnames dcnames pmnames cdnames ctnames ocnamed kVnamed dcnamed pmnamed cdnamed ctnamed occheck kVcheck dccheck pmcheck cdcheck ctcheck ocends kVends dcends pmends cdends ctends octied kVtied dctied pmtied cdtied cttied oclots kVlots dclots pmlots cdlots ctlots ocsteps kVsteps dcsteps pmsteps cdsteps ctsteps oclevels kVlevels dclevels pmlevels cdlevels ctlevels ocring kVring dcring pmring cdring ctring ocbridges kVbridges dcbridges pmbridges cdbridges ctbridges ocmerged kVmerged dcmerged pmmerged cdmerged ctmerged ocunm kVunm dcunm pmunm cdunm ctunm ocuntold kVuntold dcuntold pmuntold cduntold ctuntold ocistold kVistold dcistold pmistold cdistold ctistold octolds kVtolds dctolds pmtolds cdtolds cttolds ocleast kVleast dcleast pmleast cdleast ctleast oclength kVlength dclength pmlength cdlength ctlength ocfound kVfound dcfound pmfound cdfound ctfound ocmended kVmended dcmended pmmended cdmended ctmended ocrow kVrow dcrow pmrow cdrow ctrow ocnumbers kVnumbers dcnumbers pmnumbers cdnumbers ctnumbers ocplant kVplant dcplant pmplant cdplant ctplant ocmade kVmade dcmade pmmade cdmade ctmade ocmost kVmost dcmost pmmost cdmost ctmost oclotsof kVlotsof dclotsof pmlotsof cdlotsof ctlotsof ocatleast kVatleast dcatleast pmatleast cdatleast ctatleast oclaw kVlaw dclaw pmlaw cdlaw ctlaw : Value}
    (aC : PySem.W.nsIn K mainGlobals "Plant" = some (some (.ref C)))
    (aisname : PySem.W.nsIn K mainGlobals "is_name" = some (some (.ref fisname)))
    (lisname : K.lookup fisname = some ⟨ocisname, odisname, .func (PySem.W.fnOf "is_name" "is_name" (defArgs sIsName) (defBody sIsName) (defScope sIsName) .none kVisname dcisname pmisname anisname cdisname ctisname), slisname⟩)
    (cisname : PySem.W.codeIn K cdisname "is_name" = true)
    (kisname : PySem.W.keepIn K (.ref fisname) = true)
    (aarenames : PySem.W.nsIn K mainGlobals "are_names" = some (some (.ref farenames)))
    (larenames : K.lookup farenames = some ⟨ocarenames, odarenames, .func (PySem.W.fnOf "are_names" "are_names" (defArgs sAreNames) (defBody sAreNames) (defScope sAreNames) .none kVarenames dcarenames pmarenames anarenames cdarenames ctarenames), slarenames⟩)
    (carenames : PySem.W.codeIn K cdarenames "are_names" = true)
    (karenames : PySem.W.keepIn K (.ref farenames) = true)
    (aisstream : PySem.W.nsIn K mainGlobals "is_stream" = some (some (.ref fisstream)))
    (lisstream : K.lookup fisstream = some ⟨ocisstream, odisstream, .func (PySem.W.fnOf "is_stream" "is_stream" (defArgs sIsStream) (defBody sIsStream) (defScope sIsStream) .none kVisstream dcisstream pmisstream anisstream cdisstream ctisstream), slisstream⟩)
    (cisstream : PySem.W.codeIn K cdisstream "is_stream" = true)
    (kisstream : PySem.W.keepIn K (.ref fisstream) = true)
    (ainit : PySem.W.findIn K (.ref C) "__init__" = some (some (.ref finit)))
    (iinit : PySem.W.isFn K (.ref finit) = true)
    (linit : K.lookup finit = some ⟨ocinit, odinit, .func (PySem.W.fnOf "__init__" "Plant.__init__" (defArgs sInit) (defBody sInit) (defScope sInit) .none kVinit dcinit pminit aninit cdinit ctinit), slinit⟩)
    (cinit : PySem.W.codeIn K cdinit "Plant.__init__" = true)
    (kinit : PySem.W.keepIn K (.ref finit) = true)
    (aknots : PySem.W.findIn K (.ref C) "knots" = some (some (.ref pknots)))
    (gknots : PySem.W.specialIn K (.ref pknots) "__get__" = some (some (.builtin "property.__get__")))
    (tknots : PySem.W.takesIn K (.ref pknots) = some true)
    (rknots : PySem.W.recIn K pknots "property" = some (.ref fknots :: rknots))
    (lknots : K.lookup fknots = some ⟨ocknots, odknots, .func (PySem.W.fnOf "knots" "Plant.knots" (defArgs sKnots) (defBody sKnots) (defScope sKnots) .none kVknots dcknots pmknots anknots cdknots ctknots), slknots⟩)
    (cknots : PySem.W.codeIn K cdknots "Plant.knots" = true)
    (kknots : PySem.W.keepIn K (.ref fknots) = true)
    (astreams : PySem.W.findIn K (.ref C) "streams" = some (some (.ref pstreams)))
    (gstreams : PySem.W.specialIn K (.ref pstreams) "__get__" = some (some (.builtin "property.__get__")))
    (tstreams : PySem.W.takesIn K (.ref pstreams) = some true)
    (rstreams : PySem.W.recIn K pstreams "property" = some (.ref fstreams :: rstreams))
    (lstreams : K.lookup fstreams = some ⟨ocstreams, odstreams, .func (PySem.W.fnOf "streams" "Plant.streams" (defArgs sStreams) (defBody sStreams) (defScope sStreams) .none kVstreams dcstreams pmstreams anstreams cdstreams ctstreams), slstreams⟩)
    (cstreams : PySem.W.codeIn K cdstreams "Plant.streams" = true)
    (kstreams : PySem.W.keepIn K (.ref fstreams) = true)
    (anames : PySem.W.findIn K (.ref C) "stream_names" = some (some (.ref fnames)))
    (inames : PySem.W.isFn K (.ref fnames) = true)
    (lnames : K.lookup fnames = some ⟨ocnames, odnames, .func (PySem.W.fnOf "stream_names" "Plant.stream_names" (defArgs sNames) (defBody sNames) (defScope sNames) .none kVnames dcnames pmnames annames cdnames ctnames), slnames⟩)
    (cnames : PySem.W.codeIn K cdnames "Plant.stream_names" = true)
    (knames : PySem.W.keepIn K (.ref fnames) = true)
    (anamed : PySem.W.findIn K (.ref C) "stream_named" = some (some (.ref fnamed)))
    (inamed : PySem.W.isFn K (.ref fnamed) = true)
    (lnamed : K.lookup fnamed = some ⟨ocnamed, odnamed, .func (PySem.W.fnOf "stream_named" "Plant.stream_named" (defArgs sNamed) (defBody sNamed) (defScope sNamed) .none kVnamed dcnamed pmnamed annamed cdnamed ctnamed), slnamed⟩)
    (cnamed : PySem.W.codeIn K cdnamed "Plant.stream_named" = true)
    (knamed : PySem.W.keepIn K (.ref fnamed) = true)
    (acheck : PySem.W.nsIn K mainGlobals "check_names" = some (some (.ref fcheck)))
    (lcheck : K.lookup fcheck = some ⟨occheck, odcheck, .func (PySem.W.fnOf "check_names" "check_names" (defArgs sCheck) (defBody sCheck) (defScope sCheck) .none kVcheck dccheck pmcheck ancheck cdcheck ctcheck), slcheck⟩)
    (ccheck : PySem.W.codeIn K cdcheck "check_names" = true)
    (kcheck : PySem.W.keepIn K (.ref fcheck) = true)
    (aends : PySem.W.nsIn K mainGlobals "ends_of" = some (some (.ref fends)))
    (lends : K.lookup fends = some ⟨ocends, odends, .func (PySem.W.fnOf "ends_of" "ends_of" (defArgs sEnds) (defBody sEnds) (defScope sEnds) .none kVends dcends pmends anends cdends ctends), slends⟩)
    (cends : PySem.W.codeIn K cdends "ends_of" = true)
    (kends : PySem.W.keepIn K (.ref fends) = true)
    (atied : PySem.W.nsIn K mainGlobals "tied" = some (some (.ref ftied)))
    (ltied : K.lookup ftied = some ⟨octied, odtied, .func (PySem.W.fnOf "tied" "tied" (defArgs sTied) (defBody sTied) (defScope sTied) .none kVtied dctied pmtied antied cdtied cttied), sltied⟩)
    (ctied : PySem.W.codeIn K cdtied "tied" = true)
    (ktied : PySem.W.keepIn K (.ref ftied) = true)
    (alots : PySem.W.nsIn K mainGlobals "lots_by" = some (some (.ref flots)))
    (llots : K.lookup flots = some ⟨oclots, odlots, .func (PySem.W.fnOf "lots_by" "lots_by" (defArgs sLots) (defBody sLots) (defScope sLots) .none kVlots dclots pmlots anlots cdlots ctlots), sllots⟩)
    (clots : PySem.W.codeIn K cdlots "lots_by" = true)
    (klots : PySem.W.keepIn K (.ref flots) = true)
    (asteps : PySem.W.nsIn K mainGlobals "steps_from" = some (some (.ref fsteps)))
    (lsteps : K.lookup fsteps = some ⟨ocsteps, odsteps, .func (PySem.W.fnOf "steps_from" "steps_from" (defArgs sSteps) (defBody sSteps) (defScope sSteps) .none kVsteps dcsteps pmsteps ansteps cdsteps ctsteps), slsteps⟩)
    (csteps : PySem.W.codeIn K cdsteps "steps_from" = true)
    (ksteps : PySem.W.keepIn K (.ref fsteps) = true)
    (alevels : PySem.W.nsIn K mainGlobals "levels_from" = some (some (.ref flevels)))
    (llevels : K.lookup flevels = some ⟨oclevels, odlevels, .func (PySem.W.fnOf "levels_from" "levels_from" (defArgs sLevels) (defBody sLevels) (defScope sLevels) .none kVlevels dclevels pmlevels anlevels cdlevels ctlevels), sllevels⟩)
    (clevels : PySem.W.codeIn K cdlevels "levels_from" = true)
    (klevels : PySem.W.keepIn K (.ref flevels) = true)
    (aring : PySem.W.nsIn K mainGlobals "ring_through" = some (some (.ref fring)))
    (lring : K.lookup fring = some ⟨ocring, odring, .func (PySem.W.fnOf "ring_through" "ring_through" (defArgs sRing) (defBody sRing) (defScope sRing) .none kVring dcring pmring anring cdring ctring), slring⟩)
    (cring : PySem.W.codeIn K cdring "ring_through" = true)
    (kring : PySem.W.keepIn K (.ref fring) = true)
    (abridges : PySem.W.nsIn K mainGlobals "bridges" = some (some (.ref fbridges)))
    (lbridges : K.lookup fbridges = some ⟨ocbridges, odbridges, .func (PySem.W.fnOf "bridges" "bridges" (defArgs sBridges) (defBody sBridges) (defScope sBridges) .none kVbridges dcbridges pmbridges anbridges cdbridges ctbridges), slbridges⟩)
    (cbridges : PySem.W.codeIn K cdbridges "bridges" = true)
    (kbridges : PySem.W.keepIn K (.ref fbridges) = true)
    (amerged : PySem.W.nsIn K mainGlobals "merged" = some (some (.ref fmerged)))
    (lmerged : K.lookup fmerged = some ⟨ocmerged, odmerged, .func (PySem.W.fnOf "merged" "merged" (defArgs sMerged) (defBody sMerged) (defScope sMerged) .none kVmerged dcmerged pmmerged anmerged cdmerged ctmerged), slmerged⟩)
    (cmerged : PySem.W.codeIn K cdmerged "merged" = true)
    (kmerged : PySem.W.keepIn K (.ref fmerged) = true)
    (aunm : PySem.W.nsIn K mainGlobals "unmetered" = some (some (.ref funm)))
    (lunm : K.lookup funm = some ⟨ocunm, odunm, .func (PySem.W.fnOf "unmetered" "unmetered" (defArgs sUnm) (defBody sUnm) (defScope sUnm) .none kVunm dcunm pmunm anunm cdunm ctunm), slunm⟩)
    (cunm : PySem.W.codeIn K cdunm "unmetered" = true)
    (kunm : PySem.W.keepIn K (.ref funm) = true)
    (auntold : PySem.W.nsIn K mainGlobals "untold_ring" = some (some (.ref funtold)))
    (luntold : K.lookup funtold = some ⟨ocuntold, oduntold, .func (PySem.W.fnOf "untold_ring" "untold_ring" (defArgs sUntold) (defBody sUntold) (defScope sUntold) .none kVuntold dcuntold pmuntold anuntold cduntold ctuntold), sluntold⟩)
    (cuntold : PySem.W.codeIn K cduntold "untold_ring" = true)
    (kuntold : PySem.W.keepIn K (.ref funtold) = true)
    (aistold : PySem.W.nsIn K mainGlobals "is_told" = some (some (.ref fistold)))
    (listold : K.lookup fistold = some ⟨ocistold, odistold, .func (PySem.W.fnOf "is_told" "is_told" (defArgs sIsTold) (defBody sIsTold) (defScope sIsTold) .none kVistold dcistold pmistold anistold cdistold ctistold), slistold⟩)
    (cistold : PySem.W.codeIn K cdistold "is_told" = true)
    (kistold : PySem.W.keepIn K (.ref fistold) = true)
    (atolds : PySem.W.nsIn K mainGlobals "told_streams" = some (some (.ref ftolds)))
    (ltolds : K.lookup ftolds = some ⟨octolds, odtolds, .func (PySem.W.fnOf "told_streams" "told_streams" (defArgs sToldS) (defBody sToldS) (defScope sToldS) .none kVtolds dctolds pmtolds antolds cdtolds cttolds), sltolds⟩)
    (ctolds : PySem.W.codeIn K cdtolds "told_streams" = true)
    (ktolds : PySem.W.keepIn K (.ref ftolds) = true)
    (aleast : PySem.W.nsIn K mainGlobals "least_ring" = some (some (.ref fleast)))
    (lleast : K.lookup fleast = some ⟨ocleast, odleast, .func (PySem.W.fnOf "least_ring" "least_ring" (defArgs sLeast) (defBody sLeast) (defScope sLeast) .none kVleast dcleast pmleast anleast cdleast ctleast), slleast⟩)
    (cleast : PySem.W.codeIn K cdleast "least_ring" = true)
    (kleast : PySem.W.keepIn K (.ref fleast) = true)
    (alength : PySem.W.nsIn K mainGlobals "ring_length" = some (some (.ref flength)))
    (llength : K.lookup flength = some ⟨oclength, odlength, .func (PySem.W.fnOf "ring_length" "ring_length" (defArgs sLength) (defBody sLength) (defScope sLength) .none kVlength dclength pmlength anlength cdlength ctlength), sllength⟩)
    (clength : PySem.W.codeIn K cdlength "ring_length" = true)
    (klength : PySem.W.keepIn K (.ref flength) = true)
    (afound : PySem.W.nsIn K mainGlobals "found_up_to" = some (some (.ref ffound)))
    (lfound : K.lookup ffound = some ⟨ocfound, odfound, .func (PySem.W.fnOf "found_up_to" "found_up_to" (defArgs sFound) (defBody sFound) (defScope sFound) .none kVfound dcfound pmfound anfound cdfound ctfound), slfound⟩)
    (cfound : PySem.W.codeIn K cdfound "found_up_to" = true)
    (kfound : PySem.W.keepIn K (.ref ffound) = true)
    (amended : PySem.W.nsIn K mainGlobals "mended_up_to" = some (some (.ref fmended)))
    (lmended : K.lookup fmended = some ⟨ocmended, odmended, .func (PySem.W.fnOf "mended_up_to" "mended_up_to" (defArgs sMended) (defBody sMended) (defScope sMended) .none kVmended dcmended pmmended anmended cdmended ctmended), slmended⟩)
    (cmended : PySem.W.codeIn K cdmended "mended_up_to" = true)
    (kmended : PySem.W.keepIn K (.ref fmended) = true)
    (arow : PySem.W.nsIn K mainGlobals "_law_row" = some (some (.ref frow)))
    (lrow : K.lookup frow = some ⟨ocrow, odrow, .func (PySem.W.fnOf "_law_row" "_law_row" (defArgs sRow) (defBody sRow) (defScope sRow) .none kVrow dcrow pmrow anrow cdrow ctrow), slrow⟩)
    (crow : PySem.W.codeIn K cdrow "_law_row" = true)
    (krow : PySem.W.keepIn K (.ref frow) = true)
    (anumbers : PySem.W.nsIn K mainGlobals "_law_numbers" = some (some (.ref fnumbers)))
    (lnumbers : K.lookup fnumbers = some ⟨ocnumbers, odnumbers, .func (PySem.W.fnOf "_law_numbers" "_law_numbers" (defArgs sNumbers) (defBody sNumbers) (defScope sNumbers) .none kVnumbers dcnumbers pmnumbers annumbers cdnumbers ctnumbers), slnumbers⟩)
    (cnumbers : PySem.W.codeIn K cdnumbers "_law_numbers" = true)
    (knumbers : PySem.W.keepIn K (.ref fnumbers) = true)
    (aplant : PySem.W.nsIn K mainGlobals "_law_plant" = some (some (.ref fplant)))
    (lplant : K.lookup fplant = some ⟨ocplant, odplant, .func (PySem.W.fnOf "_law_plant" "_law_plant" (defArgs sPlant) (defBody sPlant) (defScope sPlant) .none kVplant dcplant pmplant anplant cdplant ctplant), slplant⟩)
    (cplant : PySem.W.codeIn K cdplant "_law_plant" = true)
    (kplant : PySem.W.keepIn K (.ref fplant) = true)
    (amade : PySem.W.nsIn K mainGlobals "_law_made" = some (some (.ref fmade)))
    (lmade : K.lookup fmade = some ⟨ocmade, odmade, .func (PySem.W.fnOf "_law_made" "_law_made" (defArgs sMade) (defBody sMade) (defScope sMade) .none kVmade dcmade pmmade anmade cdmade ctmade), slmade⟩)
    (cmade : PySem.W.codeIn K cdmade "_law_made" = true)
    (kmade : PySem.W.keepIn K (.ref fmade) = true)
    (amost : PySem.W.nsIn K mainGlobals "_law_most" = some (some (.ref fmost)))
    (lmost : K.lookup fmost = some ⟨ocmost, odmost, .func (PySem.W.fnOf "_law_most" "_law_most" (defArgs sMost) (defBody sMost) (defScope sMost) .none kVmost dcmost pmmost anmost cdmost ctmost), slmost⟩)
    (cmost : PySem.W.codeIn K cdmost "_law_most" = true)
    (kmost : PySem.W.keepIn K (.ref fmost) = true)
    (alotsof : PySem.W.nsIn K mainGlobals "_law_lots_of" = some (some (.ref flotsof)))
    (llotsof : K.lookup flotsof = some ⟨oclotsof, odlotsof, .func (PySem.W.fnOf "_law_lots_of" "_law_lots_of" (defArgs sLotsOf) (defBody sLotsOf) (defScope sLotsOf) .none kVlotsof dclotsof pmlotsof anlotsof cdlotsof ctlotsof), sllotsof⟩)
    (clotsof : PySem.W.codeIn K cdlotsof "_law_lots_of" = true)
    (klotsof : PySem.W.keepIn K (.ref flotsof) = true)
    (aatleast : PySem.W.nsIn K mainGlobals "_law_is_at_least" = some (some (.ref fatleast)))
    (latleast : K.lookup fatleast = some ⟨ocatleast, odatleast, .func (PySem.W.fnOf "_law_is_at_least" "_law_is_at_least" (defArgs sAtLeast) (defBody sAtLeast) (defScope sAtLeast) .none kVatleast dcatleast pmatleast anatleast cdatleast ctatleast), slatleast⟩)
    (catleast : PySem.W.codeIn K cdatleast "_law_is_at_least" = true)
    (katleast : PySem.W.keepIn K (.ref fatleast) = true)
    (alaw : PySem.W.nsIn K mainGlobals "law" = some (some (.ref flaw)))
    (llaw : K.lookup flaw = some ⟨oclaw, odlaw, .func (PySem.W.fnOf "law" "law" (defArgs sLaw) (defBody sLaw) (defScope sLaw) .none kVlaw dclaw pmlaw anlaw cdlaw ctlaw), sllaw⟩)
    (claw : PySem.W.codeIn K cdlaw "law" = true)
    (klaw : PySem.W.keepIn K (.ref flaw) = true)
    (pg : PySem.W.plainGet K C Str.empty = true)
    (hd : PySem.W.hasDictIn K C = true)
    (po : PySem.W.plainOver K C = true)
    (sa : PySem.W.findIn K (.ref C) "__setattr__" = some (some (.builtin "object.__setattr__")))
    (mk : PySem.W.makesIn K C = true)
    (kc : PySem.W.keepIn K (.ref C) = true)
    (nK : PySem.W.findIn K (.ref C) "_knots" = some none)
    (nS : PySem.W.findIn K (.ref C) "_streams" = some none)
    (zlen : PySem.W.nsIn K mainGlobals "len" = some none)
    (zall : PySem.W.nsIn K mainGlobals "all" = some none)
    (zany : PySem.W.nsIn K mainGlobals "any" = some none)
    (zset : PySem.W.nsIn K mainGlobals "set" = some none)
    (zsorted : PySem.W.nsIn K mainGlobals "sorted" = some none)
    (zlist : PySem.W.nsIn K mainGlobals "list" = some none)
    (zmax : PySem.W.nsIn K mainGlobals "max" = some none)
    (zmin : PySem.W.nsIn K mainGlobals "min" = some none)
    (zabs : PySem.W.nsIn K mainGlobals "abs" = some none)
    (zint : PySem.W.nsIn K mainGlobals "int" = some none)
    (zrange : PySem.W.nsIn K mainGlobals "range" = some none)
    (v1 : PySem.W.nsIn K mainGlobals "LETTERS" = some (some (.str "abcdefghijklmnopqrstuvwxyz0123456789" tl1)))
    (v2 : PySem.W.nsIn K mainGlobals "MOST_FLOW" = some (some (.int 1000000 tl2)))
    (v3 : PySem.W.nsIn K mainGlobals "MOST_KNOTS" = some (some (.int 24 tl3)))
    (v4 : PySem.W.nsIn K mainGlobals "MOST_STREAMS" = some (some (.int 60 tl4)))
    : ∃ fd : FuncData, (∀ (s : Shared) (v : Value), BindsTo s fd ⟨[v], []⟩ [("_law_script", v)]) ∧ ∀ base : Heap, K.In base → base.Ns mainGlobals mg → FnOk l.prog w K mg base CX0 9 fa fd ["_law_script"] (spLaw K) := by
  have e := hfa.symm.trans (PySem.W.mg_of X G alaw)
  cases e
  have T : Txt K mg C := ⟨⟨pg, hd, po, sa⟩, nK, nS, PySem.W.mg_of X G aC, PySem.W.mg_none_of X G zlen, PySem.W.mg_none_of X G zall, PySem.W.mg_none_of X G zany, PySem.W.mg_none_of X G zset, PySem.W.mg_none_of X G zsorted, PySem.W.mg_none_of X G zlist, PySem.W.mg_none_of X G zmax, PySem.W.mg_none_of X G zmin, PySem.W.mg_none_of X G zabs, PySem.W.mg_none_of X G zint, PySem.W.mg_none_of X G zrange, ⟨_, PySem.W.mg_of X G v1⟩, ⟨_, PySem.W.mg_of X G v2⟩, ⟨_, PySem.W.mg_of X G v3⟩, ⟨_, PySem.W.mg_of X G v4⟩⟩
  have Fisname := fun_mk (st := sIsName) lisname cisname kisname
  have Farenames := fun_mk (st := sAreNames) larenames carenames karenames
  have Fisstream := fun_mk (st := sIsStream) lisstream cisstream kisstream
  have Finit := fun_mk (st := sInit) linit cinit kinit
  have Fknots := fun_mk (st := sKnots) lknots cknots kknots
  have Fstreams := fun_mk (st := sStreams) lstreams cstreams kstreams
  have Fnames := fun_mk (st := sNames) lnames cnames knames
  have Fnamed := fun_mk (st := sNamed) lnamed cnamed knamed
  have Fcheck := fun_mk (st := sCheck) lcheck ccheck kcheck
  have Fends := fun_mk (st := sEnds) lends cends kends
  have Ftied := fun_mk (st := sTied) ltied ctied ktied
  have Flots := fun_mk (st := sLots) llots clots klots
  have Fsteps := fun_mk (st := sSteps) lsteps csteps ksteps
  have Flevels := fun_mk (st := sLevels) llevels clevels klevels
  have Fring := fun_mk (st := sRing) lring cring kring
  have Fbridges := fun_mk (st := sBridges) lbridges cbridges kbridges
  have Fmerged := fun_mk (st := sMerged) lmerged cmerged kmerged
  have Funm := fun_mk (st := sUnm) lunm cunm kunm
  have Funtold := fun_mk (st := sUntold) luntold cuntold kuntold
  have Fistold := fun_mk (st := sIsTold) listold cistold kistold
  have Ftolds := fun_mk (st := sToldS) ltolds ctolds ktolds
  have Fleast := fun_mk (st := sLeast) lleast cleast kleast
  have Flength := fun_mk (st := sLength) llength clength klength
  have Ffound := fun_mk (st := sFound) lfound cfound kfound
  have Fmended := fun_mk (st := sMended) lmended cmended kmended
  have Frow := fun_mk (st := sRow) lrow crow krow
  have Fnumbers := fun_mk (st := sNumbers) lnumbers cnumbers knumbers
  have Fplant := fun_mk (st := sPlant) lplant cplant kplant
  have Fmade := fun_mk (st := sMade) lmade cmade kmade
  have Fmost := fun_mk (st := sMost) lmost cmost kmost
  have Flotsof := fun_mk (st := sLotsOf) llotsof clotsof klotsof
  have Fatleast := fun_mk (st := sAtLeast) latleast catleast katleast
  have Flaw := fun_mk (st := sLaw) llaw claw klaw
  have Bisname := Fisname.binds (ps := ["text"]) fun _ _ _ _ _ _ us hl => match us, hl with | [_], _ => rfl
  have Barenames := Farenames.binds (ps := ["texts"]) fun _ _ _ _ _ _ us hl => match us, hl with | [_], _ => rfl
  have Bisstream := Fisstream.binds (ps := ["stream", "knots"]) fun _ _ _ _ _ _ us hl => match us, hl with | [_, _], _ => rfl
  have Binit := Finit.binds (ps := ["self", "knots", "streams"]) fun _ _ _ _ _ _ us hl => match us, hl with | [_, _, _], _ => rfl
  have Bknots := Fknots.binds (ps := ["self"]) fun _ _ _ _ _ _ us hl => match us, hl with | [_], _ => rfl
  have Bstreams := Fstreams.binds (ps := ["self"]) fun _ _ _ _ _ _ us hl => match us, hl with | [_], _ => rfl
  have Bnames := Fnames.binds (ps := ["self"]) fun _ _ _ _ _ _ us hl => match us, hl with | [_], _ => rfl
  have Bnamed := Fnamed.binds (ps := ["self", "name"]) fun _ _ _ _ _ _ us hl => match us, hl with | [_, _], _ => rfl
  have Bcheck := Fcheck.binds (ps := ["plant", "names"]) fun _ _ _ _ _ _ us hl => match us, hl with | [_, _], _ => rfl
  have Bends := Fends.binds (ps := ["plant", "name"]) fun _ _ _ _ _ _ us hl => match us, hl with | [_, _], _ => rfl
  have Btied := Ftied.binds (ps := ["lots", "one", "other"]) fun _ _ _ _ _ _ us hl => match us, hl with | [_, _, _], _ => rfl
  have Blots := Flots.binds (ps := ["plant", "names"]) fun _ _ _ _ _ _ us hl => match us, hl with | [_, _], _ => rfl
  have Bsteps := Fsteps.binds (ps := ["plant", "names", "knot"]) fun _ _ _ _ _ _ us hl => match us, hl with | [_, _, _], _ => rfl
  have Blevels := Flevels.binds (ps := ["plant", "names", "knot"]) fun _ _ _ _ _ _ us hl => match us, hl with | [_, _, _], _ => rfl
  have Bring := Fring.binds (ps := ["plant", "names", "name"]) fun _ _ _ _ _ _ us hl => match us, hl with | [_, _, _], _ => rfl
  have Bbridges := Fbridges.binds (ps := ["plant", "names"]) fun _ _ _ _ _ _ us hl => match us, hl with | [_, _], _ => rfl
  have Bmerged := Fmerged.binds (ps := ["plant", "metered"]) fun _ _ _ _ _ _ us hl => match us, hl with | [_, _], _ => rfl
  have Bunm := Funm.binds (ps := ["plant", "metered"]) fun _ _ _ _ _ _ us hl => match us, hl with | [_, _], _ => rfl
  have Buntold := Funtold.binds (ps := ["plant", "metered", "name"]) fun _ _ _ _ _ _ us hl => match us, hl with | [_, _, _], _ => rfl
  have Bistold := Fistold.binds (ps := ["plant", "metered", "name"]) fun _ _ _ _ _ _ us hl => match us, hl with | [_, _, _], _ => rfl
  have Btolds := Ftolds.binds (ps := ["plant", "metered"]) fun _ _ _ _ _ _ us hl => match us, hl with | [_, _], _ => rfl
  have Bleast := Fleast.binds (ps := ["plant", "metered"]) fun _ _ _ _ _ _ us hl => match us, hl with | [_, _], _ => rfl
  have Blength := Flength.binds (ps := ["plant", "metered"]) fun _ _ _ _ _ _ us hl => match us, hl with | [_, _], _ => rfl
  have Bfound := Ffound.binds (ps := ["plant", "metered"]) fun _ _ _ _ _ _ us hl => match us, hl with | [_, _], _ => rfl
  have Bmended := Fmended.binds (ps := ["plant", "metered"]) fun _ _ _ _ _ _ us hl => match us, hl with | [_, _], _ => rfl
  have Brow := Frow.binds (ps := ["_law_cell", "_law_many"]) fun _ _ _ _ _ _ us hl => match us, hl with | [_, _], _ => rfl
  have Bnumbers := Fnumbers.binds (ps := ["_law_script", "_law_many"]) fun _ _ _ _ _ _ us hl => match us, hl with | [_, _], _ => rfl
  have Bplant := Fplant.binds (ps := ["_law_numbers_here", "_law_at", "_law_knots", "_law_streams"]) fun _ _ _ _ _ _ us hl => match us, hl with | [_, _, _, _], _ => rfl
  have Bmade := Fmade.binds (ps := ["_law_plant_here"]) fun _ _ _ _ _ _ us hl => match us, hl with | [_], _ => rfl
  have Bmost := Fmost.binds (ps := ["_law_plant_here", "_law_numbers_here", "_law_at"]) fun _ _ _ _ _ _ us hl => match us, hl with | [_, _, _], _ => rfl
  have Blotsof := Flotsof.binds (ps := ["_law_names", "_law_many"]) fun _ _ _ _ _ _ us hl => match us, hl with | [_, _], _ => rfl
  have Batleast := Fatleast.binds (ps := ["_law_told", "_law_many"]) fun _ _ _ _ _ _ us hl => match us, hl with | [_, _], _ => rfl
  refine ⟨PySem.W.fnOf "law" "law" (defArgs sLaw) (defBody sLaw) (defScope sLaw) .none kVlaw dclaw pmlaw anlaw cdlaw ctlaw, fun s v => .of_eq rfl, fun base _ _ => ?_⟩
  have Kisname : Cal l.prog w K mg base 1 "is_name" ["text"] spIsName _ _ := ⟨ok_is_name Fisname T, PySem.W.mg_of X G aisname, kisname, Bisname⟩
  have Karenames : Cal l.prog w K mg base 2 "are_names" ["texts"] (spAreNames K) _ _ := ⟨ok_are_names Farenames T Kisname, PySem.W.mg_of X G aarenames, karenames, Barenames⟩
  have Kisstream : Cal l.prog w K mg base 1 "is_stream" ["stream", "knots"] (spIsStream K) _ _ := ⟨ok_is_stream Fisstream T, PySem.W.mg_of X G aisstream, kisstream, Bisstream⟩
  have Kinit : Mki l.prog w K mg base C _ _ := ⟨ok_init Finit T Karenames Kisstream, ⟨mk, ainit, iinit, kc⟩, Binit⟩
  have Kknots : Prp l.prog w K mg base C 1 "knots" (spKnots C) _ _ _ := ⟨ok_knots Fknots T, ⟨aknots, gknots, tknots, _, rknots⟩, Bknots⟩
  have Kstreams : Prp l.prog w K mg base C 1 "streams" (spStreams C) _ _ _ := ⟨ok_streams Fstreams T, ⟨astreams, gstreams, tstreams, _, rstreams⟩, Bstreams⟩
  have Knames : Met l.prog w K mg base C 1 "stream_names" ["self"] (spNames C) _ _ := ⟨ok_names Fnames T, ⟨anames, inames, knames⟩, Bnames⟩
  have Knamed : Met l.prog w K mg base C 1 "stream_named" ["self", "name"] (spNamed C) _ _ := ⟨ok_named Fnamed T, ⟨anamed, inamed, knamed⟩, Bnamed⟩
  have Kcheck : Cal l.prog w K mg base 2 "check_names" ["plant", "names"] (spCheck K C) _ _ := ⟨ok_check Fcheck T Knames, PySem.W.mg_of X G acheck, kcheck, Bcheck⟩
  have Kends : Cal l.prog w K mg base 2 "ends_of" ["plant", "name"] (spEnds C) _ _ := ⟨ok_ends Fends T Knamed, PySem.W.mg_of X G aends, kends, Bends⟩
  have Ktied : Cal l.prog w K mg base 1 "tied" ["lots", "one", "other"] spTied _ _ := ⟨ok_tied Ftied T, PySem.W.mg_of X G atied, ktied, Btied⟩
  have Klots : Cal l.prog w K mg base 3 "lots_by" ["plant", "names"] (spLots K C) _ _ := ⟨ok_lots Flots T Kcheck Kends Ktied Kknots, PySem.W.mg_of X G alots, klots, Blots⟩
  have Ksteps : Cal l.prog w K mg base 3 "steps_from" ["plant", "names", "knot"] (spSteps K C) _ _ := ⟨ok_steps Fsteps T Kstreams, PySem.W.mg_of X G asteps, ksteps, Bsteps⟩
  have Klevels : Cal l.prog w K mg base 4 "levels_from" ["plant", "names", "knot"] (spLevels K C) _ _ := ⟨ok_levels Flevels T Ksteps, PySem.W.mg_of X G alevels, klevels, Blevels⟩
  have Kring : Cal l.prog w K mg base 5 "ring_through" ["plant", "names", "name"] (spRing K C) _ _ := ⟨ok_ring Fring T Kcheck Kends Klevels Ksteps, PySem.W.mg_of X G aring, kring, Bring⟩
  have Kbridges : Cal l.prog w K mg base 6 "bridges" ["plant", "names"] (spBridges K C) _ _ := ⟨ok_bridges Fbridges T Kcheck Kring, PySem.W.mg_of X G abridges, kbridges, Bbridges⟩
  have Kmerged : Cal l.prog w K mg base 5 "merged" ["plant", "metered"] (spMerged K C) _ _ := ⟨ok_merged Fmerged T Kcheck Klots Knames Kknots Kstreams Kinit, PySem.W.mg_of X G amerged, kmerged, Bmerged⟩
  have Kunm : Cal l.prog w K mg base 3 "unmetered" ["plant", "metered"] (spUnm K C) _ _ := ⟨ok_unm Funm T Kcheck Knames, PySem.W.mg_of X G aunm, kunm, Bunm⟩
  have Kuntold : Cal l.prog w K mg base 6 "untold_ring" ["plant", "metered", "name"] (spUntold K C) _ _ := ⟨ok_untold Funtold T Kunm Kcheck Kring, PySem.W.mg_of X G auntold, kuntold, Buntold⟩
  have Kistold : Cal l.prog w K mg base 7 "is_told" ["plant", "metered", "name"] (spIsTold K C) _ _ := ⟨ok_is_told Fistold T Kuntold, PySem.W.mg_of X G aistold, kistold, Bistold⟩
  have Ktolds : Cal l.prog w K mg base 7 "told_streams" ["plant", "metered"] (spToldS K C) _ _ := ⟨ok_toldS Ftolds T Kbridges Kunm, PySem.W.mg_of X G atolds, ktolds, Btolds⟩
  have Kleast : Cal l.prog w K mg base 6 "least_ring" ["plant", "metered"] (spLeast K C) _ _ := ⟨ok_least Fleast T Kmerged Kring Knames, PySem.W.mg_of X G aleast, kleast, Bleast⟩
  have Klength : Cal l.prog w K mg base 7 "ring_length" ["plant", "metered"] (spLen K C fun n => (n : Int)) _ _ := ⟨ok_length Flength T Kleast, PySem.W.mg_of X G alength, klength, Blength⟩
  have Kfound : Cal l.prog w K mg base 8 "found_up_to" ["plant", "metered"] (spLen K C fun n => (n : Int) - 1) _ _ := ⟨ok_found Ffound T Klength, PySem.W.mg_of X G afound, kfound, Bfound⟩
  have Kmended : Cal l.prog w K mg base 8 "mended_up_to" ["plant", "metered"] (spLen K C fun n => ((n : Int) - 1) / 2) _ _ := ⟨ok_mended Fmended T Klength, PySem.W.mg_of X G amended, kmended, Bmended⟩
  have Krow : Cal l.prog w K mg base 1 "_law_row" ["_law_cell", "_law_many"] spRow _ _ := ⟨ok_row Frow T, PySem.W.mg_of X G arow, krow, Brow⟩
  have Knumbers : Cal l.prog w K mg base 2 "_law_numbers" ["_law_script", "_law_many"] (spNumbers K) _ _ := ⟨ok_numbers Fnumbers T Krow, PySem.W.mg_of X G anumbers, knumbers, Bnumbers⟩
  have Kplant : Cal l.prog w K mg base 1 "_law_plant" ["_law_numbers_here", "_law_at", "_law_knots", "_law_streams"] (spPlant K) _ _ := ⟨ok_plant Fplant T, PySem.W.mg_of X G aplant, kplant, Bplant⟩
  have Kmade : Cal l.prog w K mg base 5 "_law_made" ["_law_plant_here"] (spMade C) _ _ := ⟨ok_made Fmade T Kinit, PySem.W.mg_of X G amade, kmade, Bmade⟩
  have Kmost : Cal l.prog w K mg base 1 "_law_most" ["_law_plant_here", "_law_numbers_here", "_law_at"] (spMost K) _ _ := ⟨ok_most Fmost T, PySem.W.mg_of X G amost, kmost, Bmost⟩
  have Klotsof : Cal l.prog w K mg base 1 "_law_lots_of" ["_law_names", "_law_many"] (spLotsOf K) _ _ := ⟨ok_lotsOf Flotsof T, PySem.W.mg_of X G alotsof, klotsof, Blotsof⟩
  have Katleast : Cal l.prog w K mg base 1 "_law_is_at_least" ["_law_told", "_law_many"] spAtl _ _ := ⟨by rw [spAtl_eq]; exact ok_atleast Fatleast, PySem.W.mg_of X G aatleast, katleast, Batleast⟩
  exact ok_law Flaw T Knumbers Kplant Kmade Kmost Ktolds Kfound Kmended Klotsof Katleast Kistold Kleast
theorem walk {l : PySem.W.OpenLaw} {q : Program} {loose : List Str} {XP : (Str → Option Value) → Heap → Prop} {YP : World → Heap → Prop} {d : DefRec} {K : Params → PySem.W.Frag} (hn : l.most = some 63) (hdf : d.params.defaults = [])
    (hY : ∀ (w : World) (h : Heap), YP w h → (K w.params).In h)
    (F : ∀ (w : World) (mg : Str → Option Value) (fa : Addr) (h : Heap), (K w.params).In h → h.Ns mainGlobals mg → mg d.name = some (.ref fa) →
      ∃ fd : FuncData, (∀ (s : Shared) (u : Value), BindsTo s fd ⟨[u], []⟩ [("_law_script", u)]) ∧ ∀ base : Heap, (K w.params).In base → base.Ns mainGlobals mg → FnOk l.prog w (K w.params) mg base CX0 9 fa fd ["_law_script"] (spLaw (K w.params))) :
    PySem.W.WalkO q loose XP YP l.row.toRowW d [] (fun f vs => PySem.call f vs) :=
  L2.walk_of (n := 63) (k := 9) (x := "_law_script") (CX := fun _ => CX0) (sp := fun w => spLaw (K w.params)) hn (by decide) hdf ⟨rfl, by decide, by decide⟩ hY F (fun _ _ a ns hl _ hS => ⟨a, ns, rfl, hS, hl, fun _ => rfl⟩) fun _ _ _ _ _ z => z
end Msr
end
set_option Elab.async false
open PySem PySem.W PyProof.Rows
set_option maxRecDepth 100000
set_option maxHeartbeats 0
open_top mshead for PySem.Challenge.rw_metersure_k78_whole_meters_that_may_be_l
open PySem PySem.W PyProof.Rows
set_option maxRecDepth 100000 in
set_option maxHeartbeats 0 in
theorem PySem.Challenge.cw_metersure_k78_whole_meters_that_may_be_l_holds : PySem.Challenge.rw_metersure_k78_whole_meters_that_may_be_l.Holds :=
  mshead (by
  k_fill
  refine Msr.walk (l := PySem.Challenge.rw_metersure_k78_whole_meters_that_may_be_l) rfl rfl (fun w h Y => PySem.W.kIn_of Y) ?F
  case F =>
    intro w mg fa h KX G hmg
    refine' Msr.all_mk KX G hmg ?aC ?aisname ?lisname ?cisname ?kisname ?aarenames ?larenames ?carenames ?karenames ?aisstream ?lisstream ?cisstream ?kisstream ?ainit ?iinit ?linit ?cinit ?kinit ?aknots ?gknots ?tknots ?rknots ?lknots ?cknots ?kknots ?astreams ?gstreams ?tstreams ?rstreams ?lstreams ?cstreams ?kstreams ?anames ?inames ?lnames ?cnames ?knames ?anamed ?inamed ?lnamed ?cnamed ?knamed ?acheck ?lcheck ?ccheck ?kcheck ?aends ?lends ?cends ?kends ?atied ?ltied ?ctied ?ktied ?alots ?llots ?clots ?klots ?asteps ?lsteps ?csteps ?ksteps ?alevels ?llevels ?clevels ?klevels ?aring ?lring ?cring ?kring ?abridges ?lbridges ?cbridges ?kbridges ?amerged ?lmerged ?cmerged ?kmerged ?aunm ?lunm ?cunm ?kunm ?auntold ?luntold ?cuntold ?kuntold ?aistold ?listold ?cistold ?kistold ?atolds ?ltolds ?ctolds ?ktolds ?aleast ?lleast ?cleast ?kleast ?alength ?llength ?clength ?klength ?afound ?lfound ?cfound ?kfound ?amended ?lmended ?cmended ?kmended ?arow ?lrow ?crow ?krow ?anumbers ?lnumbers ?cnumbers ?knumbers ?aplant ?lplant ?cplant ?kplant ?amade ?lmade ?cmade ?kmade ?amost ?lmost ?cmost ?kmost ?alotsof ?llotsof ?clotsof ?klotsof ?aatleast ?latleast ?catleast ?katleast ?alaw ?llaw ?claw ?klaw ?pg ?hd ?po ?sa ?mk ?kc ?nK ?nS ?zlen ?zall ?zany ?zset ?zsorted ?zlist ?zmax ?zmin ?zabs ?zint ?zrange ?v1 ?v2 ?v3 ?v4
    (case aC => k_is); (case aisname => k_is); (case lisname => k_is); (case cisname => k_is); (case kisname => k_is); (case aarenames => k_is)
    (case larenames => k_is); (case carenames => k_is); (case karenames => k_is); (case aisstream => k_is); (case lisstream => k_is); (case cisstream => k_is)
    (case kisstream => k_is); (case ainit => k_is); (case iinit => k_is); (case linit => k_is); (case cinit => k_is); (case kinit => k_is)
    (case aknots => k_is); (case gknots => k_is); (case tknots => k_is); (case rknots => k_is); (case lknots => k_is); (case cknots => k_is)
    (case kknots => k_is); (case astreams => k_is); (case gstreams => k_is); (case tstreams => k_is); (case rstreams => k_is); (case lstreams => k_is)
    (case cstreams => k_is); (case kstreams => k_is); (case anames => k_is); (case inames => k_is); (case lnames => k_is); (case cnames => k_is)
    (case knames => k_is); (case anamed => k_is); (case inamed => k_is); (case lnamed => k_is); (case cnamed => k_is); (case knamed => k_is)
    (case acheck => k_is); (case lcheck => k_is); (case ccheck => k_is); (case kcheck => k_is); (case aends => k_is); (case lends => k_is)
    (case cends => k_is); (case kends => k_is); (case atied => k_is); (case ltied => k_is); (case ctied => k_is); (case ktied => k_is)
    (case alots => k_is); (case llots => k_is); (case clots => k_is); (case klots => k_is); (case asteps => k_is); (case lsteps => k_is)
    (case csteps => k_is); (case ksteps => k_is); (case alevels => k_is); (case llevels => k_is); (case clevels => k_is); (case klevels => k_is)
    (case aring => k_is); (case lring => k_is); (case cring => k_is); (case kring => k_is); (case abridges => k_is); (case lbridges => k_is)
    (case cbridges => k_is); (case kbridges => k_is); (case amerged => k_is); (case lmerged => k_is); (case cmerged => k_is); (case kmerged => k_is)
    (case aunm => k_is); (case lunm => k_is); (case cunm => k_is); (case kunm => k_is); (case auntold => k_is); (case luntold => k_is)
    (case cuntold => k_is); (case kuntold => k_is); (case aistold => k_is); (case listold => k_is); (case cistold => k_is); (case kistold => k_is)
    (case atolds => k_is); (case ltolds => k_is); (case ctolds => k_is); (case ktolds => k_is); (case aleast => k_is); (case lleast => k_is)
    (case cleast => k_is); (case kleast => k_is); (case alength => k_is); (case llength => k_is); (case clength => k_is); (case klength => k_is)
    (case afound => k_is); (case lfound => k_is); (case cfound => k_is); (case kfound => k_is); (case amended => k_is); (case lmended => k_is)
    (case cmended => k_is); (case kmended => k_is); (case arow => k_is); (case lrow => k_is); (case crow => k_is); (case krow => k_is)
    (case anumbers => k_is); (case lnumbers => k_is); (case cnumbers => k_is); (case knumbers => k_is); (case aplant => k_is); (case lplant => k_is)
    (case cplant => k_is); (case kplant => k_is); (case amade => k_is); (case lmade => k_is); (case cmade => k_is); (case kmade => k_is)
    (case amost => k_is); (case lmost => k_is); (case cmost => k_is); (case kmost => k_is); (case alotsof => k_is); (case llotsof => k_is)
    (case clotsof => k_is); (case klotsof => k_is); (case aatleast => k_is); (case latleast => k_is); (case catleast => k_is); (case katleast => k_is)
    (case alaw => k_is); (case llaw => k_is); (case claw => k_is); (case klaw => k_is); (case pg => k_is); (case hd => k_is)
    (case po => k_is); (case sa => k_is); (case mk => k_is); (case kc => k_is); (case nK => k_is); (case nS => k_is)
    (case zlen => k_is); (case zall => k_is); (case zany => k_is); (case zset => k_is); (case zsorted => k_is); (case zlist => k_is)
    (case zmax => k_is); (case zmin => k_is); (case zabs => k_is); (case zint => k_is); (case zrange => k_is); (case v1 => k_is)
    (case v2 => k_is); (case v3 => k_is); (case v4 => k_is))
