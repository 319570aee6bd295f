import PyProof.Rows.All
import Wide.All
import OpenK.AllK
import Wide.FinOn
import HandS.ForMost
import HandS.ForExc
import HandS.Walk
import KE.SortData
import HandS.Wide
import HandS.Deep
import HandS.IsInst
import HandS.TupAny
import HandS.SortInts
import HandS.Style
import HandS.More
import HandS.Conv
import PySem.Challenge.RW_cartways_k03_whole_lengths
set_option Elab.async false
set_option linter.all false
set_option maxRecDepth 100000
namespace VE
open PySem L2

inductive D where
  | non | bl (b : Bool) | int (i : Int) | str (x : Str) | ptr (v : V)
  | tup (xs : List D) | lst (own : Bool) (xs : List D) | dic (own : Bool) (ks : List Key) (xs : List D)

mutual
/-- nothing within is owned -/
def fz : D → Bool
  | .tup xs => fzs xs
  | .lst o xs => !o && fzs xs
  | .dic o _ xs => !o && fzs xs
  | _ => true
def fzs : List D → Bool
  | [] => true
  | d :: ds => fz d && fzs ds
end
mutual
def frz : D → D
  | .tup xs => .tup (frzs xs)
  | .lst _ xs => .lst false (frzs xs)
  | .dic _ ks xs => .dic false ks (frzs xs)
  | .non => .non | .bl b => .bl b | .int i => .int i | .str x => .str x | .ptr v => .ptr v
def frzs : List D → List D
  | [] => []
  | d :: ds => frz d :: frzs ds
end
mutual
def toPy : D → PyData
  | .non => .none | .bl b => .bool b | .int i => .int i | .str x => .str x | .ptr _ => .none
  | .tup xs => .tuple (toPys xs)
  | .lst _ xs => .list (toPys xs)
  | .dic _ _ _ => .dict []
def toPys : List D → List PyData
  | [] => []
  | d :: ds => toPy d :: toPys ds
end
mutual
/-- no dict within -/
def nd : D → Bool
  | .tup xs => nds xs
  | .lst _ xs => nds xs
  | .dic _ _ _ => false
  | .ptr _ => false
  | _ => true
def nds : List D → Bool
  | [] => true
  | d :: ds => nd d && nds ds
end

section
variable (K : PySem.W.Frag) (Hs H : Hp)
mutual
def Rep : D → V → List Addr → Prop
  | .non, v, fp => v = .non ∧ fp = []
  | .bl b, v, fp => v = .bl b ∧ fp = []
  | .int i, v, fp => v = .int i ∧ fp = []
  | .str x, v, fp => v = .str x ∧ fp = []
  | .ptr v0, v, fp => v = v0 ∧ fp = []
  | .tup xs, v, fp => ∃ a vs, v = .ref a ∧ SqT K Hs a vs ∧ Reps xs vs fp
  | .lst true xs, v, fp => ∃ a vs f2, v = .ref a ∧ fp = a :: f2 ∧ H a = some (.lst vs) ∧ Reps xs vs f2
  | .lst false xs, v, fp => ∃ a vs, v = .ref a ∧ fp = [] ∧ Rd Hs a (.lst vs) ∧ Reps xs vs []
  | .dic true ks xs, v, fp => ∃ a vs f2, v = .ref a ∧ fp = a :: f2 ∧ H a = some (.dK (ks.zip vs)) ∧ (ks.length = vs.length ∧ ks.Nodup) ∧ Reps xs vs f2
  | .dic false ks xs, v, fp => ∃ a vs, v = .ref a ∧ fp = [] ∧ Hs a = some (.dK (ks.zip vs)) ∧ (ks.length = vs.length ∧ ks.Nodup) ∧ Reps xs vs []
def Reps : List D → List V → List Addr → Prop
  | [], vs, fp => vs = [] ∧ fp = []
  | d :: ds, vs, fp => ∃ v vs' f1 f2, vs = v :: vs' ∧ fp = f1 ++ f2 ∧ Rep d v f1 ∧ Reps ds vs' f2
end
end
section
variable {K : PySem.W.Frag} {Hs H Hs' H' : Hp}
theorem Reps.len : ∀ {ds : List D} {vs : List V} {fp : List Addr}, Reps K Hs H ds vs fp → vs.length = ds.length
  | [], _, _, h => by obtain ⟨rfl, _⟩ := h; rfl
  | d :: ds, _, _, h => by
    obtain ⟨v, vs', f1, f2, rfl, _, _, h2⟩ := h
    simp [Reps.len h2]
theorem rd_same {a : Addr} {u : HO} (e : Same Hs Hs') (h : Rd Hs a u) : Rd Hs' a u := by
  rcases h with h | ⟨o, h⟩
  · exact .inl (e _ _ h)
  · exact .inr ⟨o, e _ _ h⟩
theorem seqT_same {a : Addr} {xs : List V} (e : Same Hs Hs') (h : SqT K Hs a xs) : SqT K Hs' a xs := by
  rcases h with (h | ⟨o, h⟩) | h
  · exact .inl (.inl (e _ _ h))
  · exact .inl (.inr ⟨o, e _ _ h⟩)
  · exact .inr h
mutual
/-- the frozen part grows, what is owned stays -/
theorem Rep.mono (e : Same Hs Hs') : ∀ {d : D} {v : V} {fp : List Addr}, Rep K Hs H d v fp → (∀ a ∈ fp, ∀ o, H a = some o → H' a = some o) → Rep K Hs' H' d v fp
  | .non, _, _, h, _ => h
  | .bl _, _, _, h, _ => h
  | .int _, _, _, h, _ => h
  | .str _, _, _, h, _ => h
  | .ptr _, _, _, h, _ => h
  | .tup xs, _, _, h, k => by
    obtain ⟨a, vs, rfl, s, r⟩ := h
    exact ⟨a, vs, rfl, seqT_same e s, Reps.mono e r k⟩
  | .lst true xs, _, _, h, k => by
    obtain ⟨a, vs, f2, rfl, rfl, s, r⟩ := h
    exact ⟨a, vs, f2, rfl, rfl, k a (by simp) _ s, Reps.mono e r fun b hb => k b (by simp [hb])⟩
  | .lst false xs, _, _, h, k => by
    obtain ⟨a, vs, rfl, rfl, s, r⟩ := h
    exact ⟨a, vs, rfl, rfl, rd_same e s, Reps.mono e r fun b hb => by cases hb⟩
  | .dic true ks xs, _, _, h, k => by
    obtain ⟨a, vs, f2, rfl, rfl, s, l, r⟩ := h
    exact ⟨a, vs, f2, rfl, rfl, k a (by simp) _ s, l, Reps.mono e r fun b hb => k b (by simp [hb])⟩
  | .dic false ks xs, _, _, h, k => by
    obtain ⟨a, vs, rfl, rfl, s, l, r⟩ := h
    exact ⟨a, vs, rfl, rfl, e _ _ s, l, Reps.mono e r fun b hb => by cases hb⟩
theorem Reps.mono (e : Same Hs Hs') : ∀ {ds : List D} {vs : List V} {fp : List Addr}, Reps K Hs H ds vs fp → (∀ a ∈ fp, ∀ o, H a = some o → H' a = some o) → Reps K Hs' H' ds vs fp
  | [], _, _, h, _ => h
  | d :: ds, _, _, h, k => by
    obtain ⟨v, vs', f1, f2, rfl, rfl, h1, h2⟩ := h
    exact ⟨v, vs', f1, f2, rfl, rfl, Rep.mono e h1 fun a ha => k a (by simp [ha]), Reps.mono e h2 fun a ha => k a (by simp [ha])⟩
end
mutual
theorem Rep.there : ∀ {d : D} {v : V} {fp : List Addr}, Rep K Hs H d v fp → ∀ a ∈ fp, ∃ o, H a = some o
  | .non, _, _, h, a, ha => by obtain ⟨_, rfl⟩ := h; cases ha
  | .bl _, _, _, h, a, ha => by obtain ⟨_, rfl⟩ := h; cases ha
  | .int _, _, _, h, a, ha => by obtain ⟨_, rfl⟩ := h; cases ha
  | .str _, _, _, h, a, ha => by obtain ⟨_, rfl⟩ := h; cases ha
  | .ptr _, _, _, h, a, ha => by obtain ⟨_, rfl⟩ := h; cases ha
  | .tup xs, _, _, h, a, ha => by
    obtain ⟨_, _, _, _, r⟩ := h
    exact Reps.there r a ha
  | .lst true xs, _, _, h, a, ha => by
    obtain ⟨b, vs, f2, rfl, rfl, s, r⟩ := h
    rcases List.mem_cons.mp ha with rfl | ha
    · exact ⟨_, s⟩
    · exact Reps.there r a ha
  | .lst false xs, _, _, h, a, ha => by
    obtain ⟨b, vs, rfl, rfl, s, r⟩ := h
    cases ha
  | .dic true ks xs, _, _, h, a, ha => by
    obtain ⟨b, vs, f2, rfl, rfl, s, l, r⟩ := h
    rcases List.mem_cons.mp ha with rfl | ha
    · exact ⟨_, s⟩
    · exact Reps.there r a ha
  | .dic false ks xs, _, _, h, a, ha => by
    obtain ⟨b, vs, rfl, rfl, s, l, r⟩ := h
    cases ha
theorem Reps.there : ∀ {ds : List D} {vs : List V} {fp : List Addr}, Reps K Hs H ds vs fp → ∀ a ∈ fp, ∃ o, H a = some o
  | [], _, _, h, a, ha => by obtain ⟨_, rfl⟩ := h; cases ha
  | d :: ds, _, _, h, a, ha => by
    obtain ⟨v, vs', f1, f2, rfl, rfl, h1, h2⟩ := h
    rcases List.mem_append.mp ha with ha | ha
    · exact Rep.there h1 a ha
    · exact Reps.there h2 a ha
end
mutual
theorem Rep.fp_nil : ∀ {d : D} {v : V} {fp : List Addr}, Rep K Hs H d v fp → fz d = true → fp = []
  | .non, _, _, h, _ => h.2
  | .bl _, _, _, h, _ => h.2
  | .int _, _, _, h, _ => h.2
  | .str _, _, _, h, _ => h.2
  | .ptr _, _, _, h, _ => h.2
  | .tup xs, _, _, h, f => by
    obtain ⟨_, _, _, _, r⟩ := h
    exact Reps.fp_nil r (by simpa [fz] using f)
  | .lst true xs, _, _, h, f => by simp [fz] at f
  | .lst false xs, _, _, h, f => by
    obtain ⟨b, vs, rfl, rfl, s, r⟩ := h
    rfl
  | .dic true ks xs, _, _, h, f => by simp [fz] at f
  | .dic false ks xs, _, _, h, f => by
    obtain ⟨b, vs, rfl, rfl, s, l, r⟩ := h
    rfl
theorem Reps.fp_nil : ∀ {ds : List D} {vs : List V} {fp : List Addr}, Reps K Hs H ds vs fp → fzs ds = true → fp = []
  | [], _, _, h, _ => h.2
  | d :: ds, _, _, h, f => by
    obtain ⟨v, vs', f1, f2, rfl, rfl, h1, h2⟩ := h
    simp only [fzs, Bool.and_eq_true] at f
    rw [Rep.fp_nil h1 f.1, Reps.fp_nil h2 f.2]
    rfl
end
mutual
/-- all is frozen: what was owned goes into the frozen part -/
theorem Rep.freeze (e : Same Hs Hs') : ∀ {d : D} {v : V} {fp : List Addr}, Rep K Hs H d v fp → (∀ a ∈ fp, ∀ o, H a = some o → Hs' a = some o) → Rep K Hs' H' (frz d) v []
  | .non, _, _, h, _ => ⟨h.1, rfl⟩
  | .bl _, _, _, h, _ => ⟨h.1, rfl⟩
  | .int _, _, _, h, _ => ⟨h.1, rfl⟩
  | .str _, _, _, h, _ => ⟨h.1, rfl⟩
  | .ptr _, _, _, h, _ => ⟨h.1, rfl⟩
  | .tup xs, _, _, h, k => by
    obtain ⟨a, vs, rfl, s, r⟩ := h
    exact ⟨a, vs, rfl, seqT_same e s, Reps.freeze e r k⟩
  | .lst true xs, _, _, h, k => by
    obtain ⟨a, vs, f2, rfl, rfl, s, r⟩ := h
    exact ⟨a, vs, rfl, rfl, Rd.of (k a (by simp) _ s), Reps.freeze e r fun b hb => k b (by simp [hb])⟩
  | .lst false xs, _, _, h, k => by
    obtain ⟨a, vs, rfl, rfl, s, r⟩ := h
    exact ⟨a, vs, rfl, rfl, rd_same e s, Reps.freeze e r fun b hb => by cases hb⟩
  | .dic true ks xs, _, _, h, k => by
    obtain ⟨a, vs, f2, rfl, rfl, s, l, r⟩ := h
    exact ⟨a, vs, rfl, rfl, k a (by simp) _ s, l, Reps.freeze e r fun b hb => k b (by simp [hb])⟩
  | .dic false ks xs, _, _, h, k => by
    obtain ⟨a, vs, rfl, rfl, s, l, r⟩ := h
    exact ⟨a, vs, rfl, rfl, e _ _ s, l, Reps.freeze e r fun b hb => by cases hb⟩
theorem Reps.freeze (e : Same Hs Hs') : ∀ {ds : List D} {vs : List V} {fp : List Addr}, Reps K Hs H ds vs fp → (∀ a ∈ fp, ∀ o, H a = some o → Hs' a = some o) → Reps K Hs' H' (frzs ds) vs []
  | [], _, _, h, _ => ⟨h.1, rfl⟩
  | d :: ds, _, _, h, k => by
    obtain ⟨v, vs', f1, f2, rfl, rfl, h1, h2⟩ := h
    exact ⟨v, vs', [], [], rfl, rfl, Rep.freeze e h1 fun a ha => k a (by simp [ha]), Reps.freeze e h2 fun a ha => k a (by simp [ha])⟩
end
mutual
theorem Rep.dp (e : Same Hs H) : ∀ {d : D} {v : V} {fp : List Addr}, Rep K Hs H d v fp → nd d = true → Dp K H v (toPy d)
  | .non, _, _, h, _ => by obtain ⟨rfl, _⟩ := h; exact .non
  | .bl b, _, _, h, _ => by obtain ⟨rfl, _⟩ := h; exact .bl b
  | .int i, _, _, h, _ => by obtain ⟨rfl, _⟩ := h; exact .int i
  | .str x, _, _, h, _ => by obtain ⟨rfl, _⟩ := h; exact .str x
  | .tup xs, _, _, h, n => by
    obtain ⟨a, vs, rfl, s, r⟩ := h
    exact .tup (seqT_same e s) (Reps.dp e r (by simpa [nd] using n))
  | .lst true xs, _, _, h, n => by
    obtain ⟨a, vs, f2, rfl, rfl, s, r⟩ := h
    exact .lst (SqL.of s) (Reps.dp e r (by simpa [nd] using n))
  | .lst false xs, _, _, h, n => by
    obtain ⟨a, vs, rfl, rfl, s, r⟩ := h
    exact .lst (.inl (rd_same e s)) (Reps.dp e r (by simpa [nd] using n))
  | .dic _ _ _, _, _, _, n => by simp [nd] at n
  | .ptr _, _, _, _, n => by simp [nd] at n
theorem Reps.dp (e : Same Hs H) : ∀ {ds : List D} {vs : List V} {fp : List Addr}, Reps K Hs H ds vs fp → nds ds = true → DpAll K H vs (toPys ds)
  | [], _, _, h, _ => by obtain ⟨rfl, _⟩ := h; exact .nil
  | d :: ds, _, _, h, n => by
    obtain ⟨v, vs', f1, f2, rfl, rfl, h1, h2⟩ := h
    simp only [nds, Bool.and_eq_true] at n
    exact .cons (Rep.dp e h1 n.1) (Reps.dp e h2 n.2)
end
theorem Reps.get : ∀ {ds : List D} {vs : List V} {fp : List Addr} {i : Nat} {d : D} {v : V}, Reps K Hs H ds vs fp → ds[i]? = some d → vs[i]? = some v → ∃ f, Rep K Hs H d v f
  | [], _, _, _, _, _, _, h, _ => by simp at h
  | d :: ds, _, _, i, d', v', h, h1, h2 => by
    obtain ⟨v, vs', f1, f2, rfl, rfl, r1, r2⟩ := h
    cases i with
    | zero =>
      simp at h1 h2
      subst h1; subst h2
      exact ⟨f1, r1⟩
    | succ i => exact Reps.get (i := i) r2 (by simpa using h1) (by simpa using h2)
end

/-! ### entries and their separate lying -/
abbrev Ent := Option D × Option V
section
variable (K : PySem.W.Frag) (Hs H : Hp)
def RepE : Ent → List Addr → Prop
  | (none, _), fp => fp = []
  | (some d, v), fp => ∃ u, v = some u ∧ Rep K Hs H d u fp
def RepEs : List Ent → List Addr → Prop
  | [], fp => fp = []
  | e :: es, fp => ∃ f1 f2, fp = f1 ++ f2 ∧ RepE K Hs H e f1 ∧ RepEs es f2
def Sep (H0 : Hp) (es : List Ent) : Prop := ∃ Hs fp, Same H0 Hs ∧ Same Hs H ∧ RepEs K Hs H es fp ∧ fp.Nodup ∧ ∀ a ∈ fp, Hs a = none
end
/-- pairs as entries -/
def es (dv : List (D × V)) : List Ent := dv.map fun p => (some p.1, some p.2)
@[simp] theorem es_nil : es [] = [] := rfl
@[simp] theorem es_cons (p : D × V) (r : List (D × V)) : es (p :: r) = (some p.1, some p.2) :: es r := rfl
theorem es_append (a b : List (D × V)) : es (a ++ b) = es a ++ es b := by simp [es]
section
variable {K : PySem.W.Frag} {Hs H H0 Hs' H' : Hp}
theorem RepE.mono (e : Same Hs Hs') {x : Ent} {fp : List Addr} (h : RepE K Hs H x fp) (k : ∀ a ∈ fp, ∀ o, H a = some o → H' a = some o) : RepE K Hs' H' x fp := by
  obtain ⟨d, v⟩ := x
  cases d with
  | none => exact h
  | some d =>
    obtain ⟨u, e1, r⟩ := h
    exact ⟨u, e1, r.mono e k⟩
theorem RepEs.mono (e : Same Hs Hs') : ∀ {x : List Ent} {fp : List Addr}, RepEs K Hs H x fp → (∀ a ∈ fp, ∀ o, H a = some o → H' a = some o) → RepEs K Hs' H' x fp
  | [], _, h, _ => h
  | x :: xs, _, h, k => by
    obtain ⟨f1, f2, rfl, h1, h2⟩ := h
    exact ⟨f1, f2, rfl, h1.mono e fun a ha => k a (by simp [ha]), RepEs.mono e h2 fun a ha => k a (by simp [ha])⟩
theorem RepE.there {x : Ent} {fp : List Addr} (h : RepE K Hs H x fp) : ∀ a ∈ fp, ∃ o, H a = some o := by
  obtain ⟨d, v⟩ := x
  cases d with
  | none =>
    have h : fp = [] := h
    subst h
    intro a ha
    cases ha
  | some d =>
    obtain ⟨u, e1, r⟩ := h
    exact r.there
theorem RepEs.there : ∀ {x : List Ent} {fp : List Addr}, RepEs K Hs H x fp → ∀ a ∈ fp, ∃ o, H a = some o
  | [], _, h, a, ha => by
    have h : _ = [] := h
    subst h
    cases ha
  | x :: xs, _, h, a, ha => by
    obtain ⟨f1, f2, rfl, h1, h2⟩ := h
    rcases List.mem_append.mp ha with ha | ha
    · exact h1.there a ha
    · exact RepEs.there h2 a ha
theorem RepEs.app : ∀ {x y : List Ent} {fp : List Addr}, RepEs K Hs H (x ++ y) fp ↔ ∃ f1 f2, fp = f1 ++ f2 ∧ RepEs K Hs H x f1 ∧ RepEs K Hs H y f2
  | [], y, fp => by
    constructor
    · intro h
      exact ⟨[], fp, rfl, rfl, h⟩
    · rintro ⟨f1, f2, rfl, h1, h2⟩
      have h1 : f1 = [] := h1
      subst h1
      exact h2
  | x :: xs, y, fp => by
    constructor
    · rintro ⟨f1, f2, rfl, h1, h2⟩
      obtain ⟨g1, g2, rfl, k1, k2⟩ := RepEs.app.mp h2
      exact ⟨f1 ++ g1, g2, by simp, ⟨f1, g1, rfl, h1, k1⟩, k2⟩
    · rintro ⟨f1, f2, rfl, ⟨g1, g2, rfl, k1, k2⟩, h2⟩
      exact ⟨g1, g2 ++ f2, by simp, k1, RepEs.app.mpr ⟨g2, f2, rfl, k2, h2⟩⟩
theorem RepEs.perm {x y : List Ent} (p : x.Perm y) : ∀ {fp : List Addr}, RepEs K Hs H x fp → ∃ fp', fp.Perm fp' ∧ RepEs K Hs H y fp' := by
  induction p with
  | nil => intro fp h; exact ⟨fp, .refl _, h⟩
  | cons e _ ih =>
    rintro fp ⟨f1, f2, rfl, h1, h2⟩
    obtain ⟨g, q, h⟩ := ih h2
    exact ⟨f1 ++ g, List.Perm.append_left _ q, f1, g, rfl, h1, h⟩
  | swap a b r =>
    rintro fp ⟨f1, f2, rfl, h1, g1, g2, rfl, k1, k2⟩
    refine ⟨g1 ++ (f1 ++ g2), ?_, g1, f1 ++ g2, rfl, k1, f1, g2, rfl, h1, k2⟩
    rw [← List.append_assoc, ← List.append_assoc]
    exact List.Perm.append_right _ List.perm_append_comm
  | trans _ _ i1 i2 =>
    intro fp h
    obtain ⟨g, q, h⟩ := i1 h
    obtain ⟨g', q', h⟩ := i2 h
    exact ⟨g', q.trans q', h⟩
theorem Reps.es : ∀ {ds : List D} {vs : List V} {fp : List Addr}, Reps K Hs H ds vs fp ↔ vs.length = ds.length ∧ RepEs K Hs H (es (ds.zip vs)) fp
  | [], vs, fp => by
    constructor
    · rintro ⟨rfl, rfl⟩
      exact ⟨rfl, rfl⟩
    · rintro ⟨h1, h2⟩
      have : vs = [] := List.length_eq_zero_iff.mp h1
      subst this
      exact ⟨rfl, h2⟩
  | d :: ds, vs, fp => by
    constructor
    · rintro ⟨v, vs', f1, f2, rfl, rfl, h1, h2⟩
      obtain ⟨l, h2⟩ := Reps.es.mp h2
      exact ⟨by simp [l], f1, f2, rfl, ⟨v, rfl, h1⟩, h2⟩
    · rintro ⟨l, h⟩
      cases vs with
      | nil => simp at l
      | cons v vs =>
        obtain ⟨f1, f2, rfl, ⟨u, e, h1⟩, h2⟩ := h
        cases e
        exact ⟨v, vs, f1, f2, rfl, rfl, h1, Reps.es.mpr ⟨by simpa using l, h2⟩⟩

theorem Sep.perm {x y : List Ent} (h : Sep K H H0 x) (p : x.Perm y) : Sep K H H0 y := by
  obtain ⟨Hs, fp, s0, s1, r, n, d⟩ := h
  obtain ⟨fp', q, r'⟩ := r.perm p
  exact ⟨Hs, fp', s0, s1, r', (q.nodup_iff).mp n, fun a ha => d a (q.mem_iff.mpr ha)⟩
theorem Sep.mono {x : List Ent} (h : Sep K H H0 x) (e : Same H H') : Sep K H' H0 x := by
  obtain ⟨Hs, fp, s0, s1, r, n, d⟩ := h
  exact ⟨Hs, fp, s0, s1.trans e, r.mono (Same.refl _) fun a _ o q => e a o q, n, d⟩
theorem Sep.same {x : List Ent} (h : Sep K H H0 x) : Same H0 H := by
  obtain ⟨Hs, fp, s0, s1, r, n, d⟩ := h
  exact s0.trans s1
theorem Sep.drop {e : Ent} {x : List Ent} (h : Sep K H H0 (e :: x)) : Sep K H H0 x := by
  obtain ⟨Hs, fp, s0, s1, ⟨f1, f2, rfl, h1, h2⟩, n, d⟩ := h
  exact ⟨Hs, f2, s0, s1, h2, (List.nodup_append.mp n).2.1, fun a ha => d a (by simp [ha])⟩
theorem Sep.dropA {y x : List Ent} (h : Sep K H H0 (y ++ x)) : Sep K H H0 x := by
  induction y with
  | nil => exact h
  | cons e y ih => exact ih h.drop
theorem Sep.non {v : Option V} {x : List Ent} (h : Sep K H H0 x) : Sep K H H0 ((none, v) :: x) := by
  obtain ⟨Hs, fp, s0, s1, r, n, d⟩ := h
  exact ⟨Hs, fp, s0, s1, ⟨[], fp, rfl, rfl, r⟩, n, d⟩
theorem Sep.forget {e : Ent} {v : Option V} {x : List Ent} (h : Sep K H H0 (e :: x)) : Sep K H H0 ((none, v) :: x) := h.drop.non
theorem Sep.scal {d : D} {v : V} {x : List Ent} (h : Sep K H H0 x) (r : ∀ Hs, Rep K Hs H d v []) : Sep K H H0 ((some d, some v) :: x) := by
  obtain ⟨Hs, fp, s0, s1, r', n, q⟩ := h
  exact ⟨Hs, fp, s0, s1, ⟨[], fp, rfl, ⟨v, rfl, r Hs⟩, r'⟩, n, q⟩
theorem Sep.int {i : Int} {x : List Ent} (h : Sep K H H0 x) : Sep K H H0 ((some (.int i), some (.int i)) :: x) := h.scal fun _ => ⟨rfl, rfl⟩
theorem Sep.bl {i : Bool} {x : List Ent} (h : Sep K H H0 x) : Sep K H H0 ((some (.bl i), some (.bl i)) :: x) := h.scal fun _ => ⟨rfl, rfl⟩
theorem Sep.str {i : Str} {x : List Ent} (h : Sep K H H0 x) : Sep K H H0 ((some (.str i), some (.str i)) :: x) := h.scal fun _ => ⟨rfl, rfl⟩
theorem Sep.nonD {x : List Ent} (h : Sep K H H0 x) : Sep K H H0 ((some .non, some .non) :: x) := h.scal fun _ => ⟨rfl, rfl⟩
/-- the head's value -/
theorem Sep.val {d : D} {v : Option V} {x : List Ent} (h : Sep K H H0 ((some d, v) :: x)) : ∃ u, v = some u := by
  obtain ⟨Hs, fp, s0, s1, ⟨f1, f2, rfl, ⟨u, e, h1⟩, h2⟩, n, q⟩ := h
  exact ⟨u, e⟩
theorem Sep.rep {d : D} {v : V} {x : List Ent} (h : Sep K H H0 ((some d, some v) :: x)) : ∃ Hs f, Same Hs H ∧ Rep K Hs H d v f := by
  obtain ⟨Hs, fp, s0, s1, ⟨f1, f2, rfl, ⟨u, e, h1⟩, h2⟩, n, q⟩ := h
  cases e
  exact ⟨Hs, f1, s1, h1⟩
theorem Sep.isInt {i : Int} {v : V} {x : List Ent} (h : Sep K H H0 ((some (.int i), some v) :: x)) : v = .int i := by
  obtain ⟨_, _, _, h⟩ := h.rep
  exact h.1
theorem Sep.isBl {i : Bool} {v : V} {x : List Ent} (h : Sep K H H0 ((some (.bl i), some v) :: x)) : v = .bl i := by
  obtain ⟨_, _, _, h⟩ := h.rep
  exact h.1
theorem Sep.isStr {i : Str} {v : V} {x : List Ent} (h : Sep K H H0 ((some (.str i), some v) :: x)) : v = .str i := by
  obtain ⟨_, _, _, h⟩ := h.rep
  exact h.1
theorem Sep.isNon {v : V} {x : List Ent} (h : Sep K H H0 ((some .non, some v) :: x)) : v = .non := by
  obtain ⟨_, _, _, h⟩ := h.rep
  exact h.1
theorem Sep.dp {d : D} {v : V} {x : List Ent} (h : Sep K H H0 ((some d, some v) :: x)) (n : nd d = true) : Dp K H v (toPy d) := by
  obtain ⟨Hs, f, s, r⟩ := h.rep
  exact r.dp s n
theorem Sep.copy {d : D} {v : V} {x : List Ent} (h : Sep K H H0 ((some d, some v) :: x)) (f : fz d = true) : Sep K H H0 ((some d, some v) :: (some d, some v) :: x) := by
  obtain ⟨Hs, fp, s0, s1, ⟨f1, f2, rfl, ⟨u, e, h1⟩, h2⟩, n, q⟩ := h
  cases e
  have z := h1.fp_nil f
  subst z
  exact ⟨Hs, [] ++ ([] ++ f2), s0, s1, ⟨[], _, rfl, ⟨v, rfl, h1⟩, ⟨[], f2, rfl, ⟨v, rfl, h1⟩, h2⟩⟩, n, q⟩
theorem Sep.freeze {d : D} {v : Option V} {x : List Ent} (h : Sep K H H0 ((some d, v) :: x)) : Sep K H H0 ((some (frz d), v) :: x) := by
  obtain ⟨Hs, fp, s0, s1, ⟨f1, f2, rfl, ⟨u, e, h1⟩, h2⟩, n, q⟩ := h
  subst e
  have nn := List.nodup_append.mp n
  have sm : Same Hs (fun b => if b ∈ f1 then H b else Hs b) := fun b o e => by
    show (if b ∈ f1 then H b else Hs b) = some o
    rw [if_neg (fun hb => by rw [q b (by simp [hb])] at e; cases e)]
    exact e
  refine ⟨fun b => if b ∈ f1 then H b else Hs b, f2, s0.trans sm, fun b o e => ?_, ⟨[], f2, rfl, ⟨u, rfl, h1.freeze sm fun a ha o e => ?_⟩, h2.mono sm fun _ _ _ e => e⟩, nn.2.1, fun a ha => ?_⟩
  · have e : (if b ∈ f1 then H b else Hs b) = some o := e
    split at e
    · exact e
    · exact s1 b o e
  · show (if a ∈ f1 then H a else Hs a) = some o
    rw [if_pos ha]
    exact e
  · show (if a ∈ f1 then H a else Hs a) = none
    rw [if_neg (fun hb => nn.2.2 a hb a ha rfl)]
    exact q a (by simp [ha])
end
end VE

namespace VE
open PySem L2
section
variable {K : PySem.W.Frag} {Hs H H0 Hs' H' : Hp}
theorem upd_same' {p : Addr} {o : HO} (h : H p = none) : Same H (upd H p o) := fun b x e => by
  rw [upd_ne (ne_of_none e h)]
  exact e
theorem zip_map (dv : List (D × V)) : List.zip (dv.map (·.1)) (dv.map (·.2)) = dv := by
  induction dv with
  | nil => rfl
  | cons a t ih => simpa using ih
theorem perm_erase {α : Type} : ∀ {l : List α} {i : Nat} {e : α}, l[i]? = some e → l.Perm (e :: l.eraseIdx i)
  | [], _, _, h => by simp at h
  | a :: t, 0, e, h => by
    simp at h
    subst h
    exact .refl _
  | a :: t, i + 1, e, h => by
    have p := perm_erase (l := t) (i := i) (by simpa using h)
    exact (p.cons a).trans (.swap _ _ _)
/-- a new tuple of the entries at the head -/
theorem Sep.tup {dv : List (D × V)} {x : List Ent} {p : Addr} (h : Sep K H H0 (es dv ++ x)) (hp : H p = none) :
    Sep K (upd H p (.tup (dv.map (·.2)))) H0 ((some (.tup (dv.map (·.1))), some (.ref p)) :: x) := by
  obtain ⟨Hs, fp, s0, s1, r, n, q⟩ := h
  obtain ⟨f1, f2, rfl, r1, r2⟩ := RepEs.app.mp r
  have hps : Hs p = none := Same.free s1 hp
  have sm : Same Hs (upd Hs p (.tup (dv.map (·.2)))) := upd_same' hps
  have k : ∀ a ∈ f1 ++ f2, ∀ o, H a = some o → upd H p (.tup (dv.map (·.2))) a = some o := fun a _ o e => upd_same' hp a o e
  have ne : ∀ a ∈ f1 ++ f2, a ≠ p := fun a ha z => by
    obtain ⟨o, e⟩ := r.there a ha
    rw [z, hp] at e
    cases e
  refine ⟨upd Hs p (.tup (dv.map (·.2))), f1 ++ f2, s0.trans sm, fun b o e => ?_, ⟨f1, f2, rfl, ⟨_, rfl, p, dv.map (·.2), rfl, SqT.of upd_same, ?_⟩, r2.mono sm fun a ha o e => k a (by simp [ha]) o e⟩, n, fun a ha => ?_⟩
  · by_cases hb : b = p
    · subst hb
      rw [upd_same] at e ⊢
      exact e
    · rw [upd_ne hb] at e ⊢
      exact s1 b o e
  · refine Reps.es.mpr ⟨by simp, ?_⟩
    rw [zip_map]
    exact r1.mono sm fun a ha o e => k a (by simp [ha]) o e
  · rw [upd_ne (ne a ha)]
    exact q a ha
/-- a new list of the entries at the head -/
theorem Sep.lst {dv : List (D × V)} {x : List Ent} {p : Addr} (h : Sep K H H0 (es dv ++ x)) (hp : H p = none) :
    Sep K (upd H p (.lst (dv.map (·.2)))) H0 ((some (.lst true (dv.map (·.1))), some (.ref p)) :: x) := by
  obtain ⟨Hs, fp, s0, s1, r, n, q⟩ := h
  have ne : ∀ a ∈ fp, a ≠ p := fun a ha z => by
    obtain ⟨o, e⟩ := r.there a ha
    rw [z, hp] at e
    cases e
  obtain ⟨f1, f2, rfl, r1, r2⟩ := RepEs.app.mp r
  have hps : Hs p = none := Same.free s1 hp
  have k : ∀ a ∈ f1 ++ f2, ∀ o, H a = some o → upd H p (.lst (dv.map (·.2))) a = some o := fun a _ o e => upd_same' hp a o e
  refine ⟨Hs, p :: f1 ++ f2, s0, s1.trans (upd_same' hp), ⟨p :: f1, f2, rfl, ⟨_, rfl, p, dv.map (·.2), f1, rfl, rfl, upd_same, ?_⟩, r2.mono (Same.refl _) fun a ha o e => k a (by simp [ha]) o e⟩, ?_, fun a ha => ?_⟩
  · refine Reps.es.mpr ⟨by simp, ?_⟩
    rw [zip_map]
    exact r1.mono (Same.refl _) fun a ha o e => k a (by simp [ha]) o e
  · exact List.nodup_cons.mpr ⟨fun hm => ne p hm rfl, n⟩
  · rcases List.mem_cons.mp ha with rfl | ha
    · exact hps
    · exact q a ha
/-- an owned list is changed: what it holds and what lies at the head are dealt out anew -/
theorem Sep.lupd {xs : List D} {u : Option V} {dv : List (D × V)} {x : List Ent} (h : Sep K H H0 ((some (.lst true xs), u) :: (es dv ++ x))) :
    ∃ a vs, u = some (.ref a) ∧ H a = some (.lst vs) ∧ vs.length = xs.length ∧
      ∀ dv' rest : List (D × V), (xs.zip vs ++ dv).Perm (dv' ++ rest) → Sep K (upd H a (.lst (dv'.map (·.2)))) H0 ((some (.lst true (dv'.map (·.1))), some (.ref a)) :: (es rest ++ x)) := by
  obtain ⟨Hs, fp, s0, s1, ⟨f1, f2, rfl, ⟨v, rfl, a, vs, g, rfl, rfl, ha, r1⟩, r2⟩, n, q⟩ := h
  obtain ⟨f3, f4, rfl, r3, r4⟩ := RepEs.app.mp r2
  obtain ⟨hl, r1⟩ := Reps.es.mp r1
  refine ⟨a, vs, rfl, ha, hl, fun dv' rest p => ?_⟩
  have r5 : RepEs K Hs H (es (xs.zip vs ++ dv)) (g ++ f3) := by
    rw [es_append]
    exact RepEs.app.mpr ⟨g, f3, rfl, r1, r3⟩
  obtain ⟨f6, p6, r6⟩ := r5.perm (p.map fun p => (some p.1, some p.2))
  have r6 : RepEs K Hs H (es (dv' ++ rest)) f6 := r6
  rw [es_append] at r6
  obtain ⟨f7, f8, rfl, r7, r8⟩ := RepEs.app.mp r6
  have nn := List.nodup_cons.mp (show (a :: (g ++ (f3 ++ f4))).Nodup from n)
  have pm : ((g ++ f3) ++ f4).Perm ((f7 ++ f8) ++ f4) := p6.append_right f4
  have n2 : ((f7 ++ f8) ++ f4).Nodup := pm.nodup_iff.mp (by rw [List.append_assoc]; exact nn.2)
  have na : ∀ b ∈ (f7 ++ f8) ++ f4, b ≠ a := fun b hb z => nn.1 (by rw [← z, ← List.append_assoc]; exact pm.mem_iff.mpr hb)
  have k : ∀ b ∈ (f7 ++ f8) ++ f4, ∀ o, H b = some o → upd H a (.lst (dv'.map (·.2))) b = some o := fun b hb o e => by
    rw [upd_ne (na b hb)]
    exact e
  have hs : Hs a = none := q a (by simp)
  refine ⟨Hs, a :: f7 ++ (f8 ++ f4), s0, fun b o e => ?_, ⟨a :: f7, f8 ++ f4, rfl, ⟨_, rfl, a, _, f7, rfl, rfl, upd_same, Reps.es.mpr ⟨by simp, ?_⟩⟩, RepEs.app.mpr ⟨f8, f4, rfl, r8.mono (Same.refl _) fun b hb => k b (by simp [hb]), r4.mono (Same.refl _) fun b hb => k b (by simp [hb])⟩⟩, ?_, fun b hb => ?_⟩
  · have hb : b ≠ a := fun z => by rw [z, hs] at e; cases e
    rw [upd_ne hb]
    exact s1 b o e
  · rw [zip_map]
    exact r7.mono (Same.refl _) fun b hb => k b (by simp [hb])
  · show (a :: (f7 ++ (f8 ++ f4))).Nodup
    rw [← List.append_assoc]
    exact List.nodup_cons.mpr ⟨fun hm => na a hm rfl, n2⟩
  · have hb : b ∈ a :: (f7 ++ (f8 ++ f4)) := hb
    rcases List.mem_cons.mp hb with rfl | hb
    · exact hs
    · rw [← List.append_assoc] at hb
      have := pm.mem_iff.mpr hb
      exact q b (by
        show b ∈ a :: (g ++ (f3 ++ f4))
        rw [← List.append_assoc]
        exact List.mem_cons_of_mem _ this)
/-- a tuple is taken apart -/
theorem Sep.untup {xs : List D} {u : Option V} {x : List Ent} (h : Sep K H H0 ((some (.tup xs), u) :: x)) :
    ∃ a vs, u = some (.ref a) ∧ SqT K H a vs ∧ vs.length = xs.length ∧ Sep K H H0 (es (xs.zip vs) ++ x) := by
  obtain ⟨Hs, fp, s0, s1, ⟨f1, f2, rfl, ⟨v, rfl, a, vs, rfl, ha, r1⟩, r2⟩, n, q⟩ := h
  obtain ⟨hl, r1⟩ := Reps.es.mp r1
  exact ⟨a, vs, rfl, seqT_same s1 ha, hl, Hs, f1 ++ f2, s0, s1, RepEs.app.mpr ⟨f1, f2, rfl, r1, r2⟩, n, q⟩
/-- a list is read, taken apart -/
theorem Sep.unlst {o : Bool} {xs : List D} {u : Option V} {x : List Ent} (h : Sep K H H0 ((some (.lst o xs), u) :: x)) :
    ∃ a vs, u = some (.ref a) ∧ Rd H a (.lst vs) ∧ vs.length = xs.length ∧ Sep K H H0 (es (xs.zip vs) ++ x) := by
  cases o with
  | true =>
    obtain ⟨Hs, fp, s0, s1, ⟨f1, f2, rfl, ⟨v, rfl, a, vs, g, rfl, rfl, ha, r1⟩, r2⟩, n, q⟩ := h
    obtain ⟨hl, r1⟩ := Reps.es.mp r1
    exact ⟨a, vs, rfl, Rd.of ha, hl, Hs, g ++ f2, s0, s1, RepEs.app.mpr ⟨g, f2, rfl, r1, r2⟩, (List.nodup_cons.mp (show (a :: (g ++ f2)).Nodup from n)).2, fun b hb => q b (by
      show b ∈ a :: (g ++ f2)
      exact List.mem_cons_of_mem _ hb)⟩
  | false =>
    obtain ⟨Hs, fp, s0, s1, ⟨f1, f2, rfl, ⟨v, rfl, a, vs, rfl, rfl, ha, r1⟩, r2⟩, n, q⟩ := h
    obtain ⟨hl, r1⟩ := Reps.es.mp r1
    exact ⟨a, vs, rfl, rd_same s1 ha, hl, Hs, f2, s0, s1, RepEs.app.mpr ⟨[], f2, rfl, r1, r2⟩, n, q⟩
/-- the items of a list whose items are frozen, beside it -/
theorem Sep.items {o : Bool} {xs : List D} {u : Option V} {x : List Ent} (h : Sep K H H0 ((some (.lst o xs), u) :: x)) (f : fzs xs = true) :
    ∃ a vs, u = some (.ref a) ∧ Rd H a (.lst vs) ∧ vs.length = xs.length ∧ Sep K H H0 (es (xs.zip vs) ++ (some (.lst o xs), u) :: x) := by
  cases o with
  | true =>
    obtain ⟨Hs, fp, s0, s1, ⟨f1, f2, rfl, ⟨v, rfl, a, vs, g, rfl, rfl, ha, r1⟩, r2⟩, n, q⟩ := h
    have eg := r1.fp_nil f
    subst eg
    obtain ⟨hl, r0⟩ := Reps.es.mp r1
    exact ⟨a, vs, rfl, Rd.of ha, hl, Hs, [] ++ ([a] ++ f2), s0, s1, RepEs.app.mpr ⟨[], _, rfl, r0, [a], f2, rfl, ⟨_, rfl, a, vs, [], rfl, rfl, ha, r1⟩, r2⟩, n, q⟩
  | false =>
    obtain ⟨Hs, fp, s0, s1, ⟨f1, f2, rfl, ⟨v, rfl, a, vs, rfl, rfl, ha, r1⟩, r2⟩, n, q⟩ := h
    obtain ⟨hl, r0⟩ := Reps.es.mp r1
    exact ⟨a, vs, rfl, rd_same s1 ha, hl, Hs, [] ++ ([] ++ f2), s0, s1, RepEs.app.mpr ⟨[], _, rfl, r0, [], f2, rfl, ⟨_, rfl, a, vs, rfl, rfl, ha, r1⟩, r2⟩, n, q⟩
theorem Sep.itemsT {xs : List D} {u : Option V} {x : List Ent} (h : Sep K H H0 ((some (.tup xs), u) :: x)) (f : fzs xs = true) :
    ∃ a vs, u = some (.ref a) ∧ SqT K H a vs ∧ vs.length = xs.length ∧ Sep K H H0 (es (xs.zip vs) ++ (some (.tup xs), u) :: x) := by
  obtain ⟨Hs, fp, s0, s1, ⟨f1, f2, rfl, ⟨v, rfl, a, vs, rfl, ha, r1⟩, r2⟩, n, q⟩ := h
  have eg := r1.fp_nil f
  subst eg
  obtain ⟨hl, r0⟩ := Reps.es.mp r1
  exact ⟨a, vs, rfl, seqT_same s1 ha, hl, Hs, [] ++ ([] ++ f2), s0, s1, RepEs.app.mpr ⟨[], _, rfl, r0, [], f2, rfl, ⟨_, rfl, a, vs, rfl, ha, r1⟩, r2⟩, n, q⟩
/-- one of the pairs at the head -/
theorem Sep.pick {dv : List (D × V)} {i : Nat} {d : D} {v : V} {x : List Ent} (h : Sep K H H0 (es dv ++ x)) (e : dv[i]? = some (d, v)) : Sep K H H0 ((some d, some v) :: x) := by
  induction dv generalizing i with
  | nil => simp at e
  | cons p r ih =>
    cases i with
    | zero =>
      simp at e
      subst e
      have h : Sep K H H0 ((some d, some v) :: (es r ++ x)) := h
      have pm : ((some d, some v) :: (es r ++ x)).Perm (es r ++ (some d, some v) :: x) := List.perm_middle.symm
      exact (h.perm pm).dropA
    | succ i => exact ih (i := i) h.drop (by simpa using e)
/-- a copy of the pairs at the head, frozen ones, chosen at will -/
theorem Sep.choose {dv : List (D × V)} {x : List Ent} (h : Sep K H H0 (es dv ++ x)) (f : ∀ p ∈ dv, fz p.1 = true) : ∀ {dw : List (D × V)}, (∀ p ∈ dw, p ∈ dv) → Sep K H H0 (es dw ++ x)
  | dw, hs => by
    obtain ⟨Hs, fp, s0, s1, r, n, q⟩ := h
    obtain ⟨f1, f2, rfl, r1, r2⟩ := RepEs.app.mp r
    have one : ∀ {dv : List (D × V)} {f1 : List Addr}, RepEs K Hs H (es dv) f1 → (∀ p ∈ dv, fz p.1 = true) → ∀ p ∈ dv, Rep K Hs H p.1 p.2 [] := by
      intro dv
      induction dv with
      | nil => intro _ _ _ p hp; cases hp
      | cons a t ih =>
        rintro f1 ⟨g1, g2, rfl, ⟨u, e, r1⟩, r2⟩ f p hp
        cases e
        have z := r1.fp_nil (f a (by simp))
        subst z
        rcases List.mem_cons.mp hp with rfl | hp
        · exact r1
        · exact ih r2 (fun p hp => f p (by simp [hp])) p hp
    have all : ∀ {dw : List (D × V)}, (∀ p ∈ dw, p ∈ dv) → RepEs K Hs H (es dw) [] := by
      intro dw
      induction dw with
      | nil => intro _; exact rfl
      | cons a t ih =>
        intro hs
        exact ⟨[], [], rfl, ⟨_, rfl, one r1 f a (hs a (by simp))⟩, ih fun p hp => hs p (by simp [hp])⟩
    exact ⟨Hs, [] ++ f2, s0, s1, RepEs.app.mpr ⟨[], f2, rfl, all hs, r2⟩, (List.nodup_append.mp n).2.1, fun a ha => q a (by simp at ha; simp [ha])⟩
theorem fzs_mem : ∀ {xs : List D}, fzs xs = true → ∀ d ∈ xs, fz d = true
  | [], _, d, h => by cases h
  | a :: t, f, d, h => by
    simp only [fzs, Bool.and_eq_true] at f
    rcases List.mem_cons.mp h with rfl | h
    · exact f.1
    · exact fzs_mem f.2 d h
theorem fzs_of : ∀ {xs : List D}, (∀ d ∈ xs, fz d = true) → fzs xs = true
  | [], _ => rfl
  | a :: t, f => by
    simp only [fzs, Bool.and_eq_true]
    exact ⟨f a (by simp), fzs_of fun d h => f d (by simp [h])⟩
mutual
theorem fz_frz : ∀ d : D, fz (frz d) = true
  | .non => rfl | .bl _ => rfl | .int _ => rfl | .str _ => rfl | .ptr _ => rfl
  | .tup xs => by simp [frz, fz, fzs_frzs xs]
  | .lst o xs => by simp [frz, fz, fzs_frzs xs]
  | .dic o ks xs => by simp [frz, fz, fzs_frzs xs]
theorem fzs_frzs : ∀ ds : List D, fzs (frzs ds) = true
  | [] => rfl
  | d :: ds => by simp [frzs, fzs, fz_frz d, fzs_frzs ds]
end
mutual
theorem frz_of_fz : ∀ d : D, fz d = true → frz d = d
  | .non, _ => rfl | .bl _, _ => rfl | .int _, _ => rfl | .str _, _ => rfl | .ptr _, _ => rfl
  | .tup xs, h => by simp [frz, frzs_of_fzs xs (by simpa [fz] using h)]
  | .lst o xs, h => by
    simp only [fz, Bool.and_eq_true, Bool.not_eq_true'] at h
    simp [frz, frzs_of_fzs xs h.2, h.1]
  | .dic o ks xs, h => by
    simp only [fz, Bool.and_eq_true, Bool.not_eq_true'] at h
    simp [frz, frzs_of_fzs xs h.2, h.1]
theorem frzs_of_fzs : ∀ ds : List D, fzs ds = true → frzs ds = ds
  | [], _ => rfl
  | d :: ds, h => by
    simp only [fzs, Bool.and_eq_true] at h
    simp [frzs, frz_of_fz d h.1, frzs_of_fzs ds h.2]
end
@[simp] theorem frzs_map (ds : List D) : frzs ds = ds.map frz := by
  induction ds with
  | nil => rfl
  | cons a t ih => simp [frzs, ih]
theorem fzs_all (ds : List D) : fzs ds = ds.all fz := by
  induction ds with
  | nil => rfl
  | cons a t ih => simp [fzs, ih]
/-- the slot at i comes to the head -/
theorem Sep.focus {T Z : List Ent} {i : Nat} {e : Ent} (hi : Z[i]? = some e) : Sep K H H0 (T ++ Z) ↔ Sep K H H0 (e :: (T ++ Z.eraseIdx i)) := by
  have p : Z.Perm (e :: Z.eraseIdx i) := perm_erase hi
  have q : (T ++ Z).Perm (e :: (T ++ Z.eraseIdx i)) := (p.append_left T).trans List.perm_middle
  exact ⟨fun h => h.perm q, fun h => h.perm q.symm⟩
theorem Sep.put {T Z : List Ent} {i : Nat} {e : Ent} (hi : i < Z.length) (h : Sep K H H0 (e :: (T ++ Z.eraseIdx i))) : Sep K H H0 (T ++ Z.set i e) := by
  have e1 : (Z.set i e)[i]? = some e := List.getElem?_set_self hi
  have e2 : (Z.set i e).eraseIdx i = Z.eraseIdx i := by
    rw [List.eraseIdx_set_eq]
  rw [Sep.focus e1, e2]
  exact h
theorem Sep.skipS {r e : Ent} {x : List Ent} (h : Sep K H H0 (r :: e :: x)) : Sep K H H0 (r :: x) := (h.perm (List.Perm.swap _ _ _)).drop
theorem Sep.skip2S {r q e : Ent} {x : List Ent} (h : Sep K H H0 (r :: q :: e :: x)) : Sep K H H0 (r :: q :: x) := (h.perm (((List.Perm.swap _ _ _).cons _).trans (List.Perm.swap _ _ _))).drop
theorem Reps.split : ∀ {xs : List D} {vs : List V} {fp : List Addr} {j : Nat} {d : D}, Reps K Hs H xs vs fp → xs[j]? = some d →
    ∃ v f f', vs[j]? = some v ∧ Rep K Hs H d v f ∧ Reps K Hs H (xs.set j (.ptr v)) vs f' ∧ fp.Perm (f ++ f')
  | [], _, _, _, _, _, h => by simp at h
  | x :: xs, _, _, 0, d, h, e => by
    obtain ⟨v, vs', f1, f2, rfl, rfl, r1, r2⟩ := h
    simp at e
    subst e
    exact ⟨v, f1, f2, by simp, r1, ⟨v, vs', [], f2, rfl, rfl, ⟨rfl, rfl⟩, r2⟩, .refl _⟩
  | x :: xs, _, _, j + 1, d, h, e => by
    obtain ⟨v, vs', f1, f2, rfl, rfl, r1, r2⟩ := h
    obtain ⟨u, f, f', e1, e2, e3, e4⟩ := Reps.split (j := j) r2 (by simpa using e)
    refine ⟨u, f, f1 ++ f', by simpa using e1, e2, ⟨v, vs', f1, f', rfl, rfl, r1, e3⟩, ?_⟩
    refine (e4.append_left f1).trans ?_
    rw [← List.append_assoc, ← List.append_assoc]
    exact List.perm_append_comm.append_right f'
theorem Reps.join : ∀ {xs : List D} {vs : List V} {fp : List Addr} {j : Nat} {d : D} {v : V} {f : List Addr}, Reps K Hs H xs vs fp → xs[j]? = some (.ptr v) → Rep K Hs H d v f →
    ∃ fp', Reps K Hs H (xs.set j d) vs fp' ∧ fp'.Perm (f ++ fp)
  | [], _, _, _, _, _, _, _, h, _ => by simp at h
  | x :: xs, _, _, 0, d, v, f, h, e, r => by
    obtain ⟨u, vs', f1, f2, rfl, rfl, r1, r2⟩ := h
    simp at e
    subst e
    obtain ⟨rfl, rfl⟩ := r1
    exact ⟨f ++ f2, ⟨u, vs', f, f2, rfl, rfl, r, r2⟩, .refl _⟩
  | x :: xs, _, _, j + 1, d, v, f, h, e, r => by
    obtain ⟨u, vs', f1, f2, rfl, rfl, r1, r2⟩ := h
    obtain ⟨fp', e1, e2⟩ := Reps.join (j := j) r2 (by simpa using e) r
    refine ⟨f1 ++ fp', ⟨u, vs', f1, fp', rfl, rfl, r1, e1⟩, ?_⟩
    refine (e2.append_left f1).trans ?_
    rw [← List.append_assoc, ← List.append_assoc]
    exact List.perm_append_comm.append_right f2
/-- an item is taken out of a list that is owned, out of a tuple; it is put back -/
theorem Sep.out {xs : List D} {u : Option V} {x : List Ent} {j : Nat} {d : D} (h : Sep K H H0 ((some (.lst true xs), u) :: x)) (e : xs[j]? = some d) :
    ∃ a vs v, u = some (.ref a) ∧ H a = some (.lst vs) ∧ vs.length = xs.length ∧ vs[j]? = some v ∧ Sep K H H0 ((some d, some v) :: (some (.lst true (xs.set j (.ptr v))), u) :: x) := by
  obtain ⟨Hs, fp, s0, s1, ⟨f1, f2, rfl, ⟨w, rfl, a, vs, g, rfl, rfl, ha, r1⟩, r2⟩, n, q⟩ := h
  obtain ⟨v, f, f', e1, e2, e3, e4⟩ := r1.split e
  have pm : ((a :: g) ++ f2).Perm (f ++ ((a :: f') ++ f2)) := by
    have p1 : (a :: g).Perm (f ++ a :: f') := (e4.cons a).trans List.perm_middle.symm
    have := p1.append_right f2
    rwa [List.append_assoc] at this
  exact ⟨a, vs, v, rfl, ha, r1.len, e1, Hs, f ++ ((a :: f') ++ f2), s0, s1, ⟨f, _, rfl, ⟨v, rfl, e2⟩, a :: f', f2, rfl, ⟨_, rfl, a, vs, f', rfl, rfl, ha, e3⟩, r2⟩, pm.nodup_iff.mp n, fun b hb => q b (pm.mem_iff.mpr hb)⟩
theorem Sep.back {xs : List D} {u : Option V} {x : List Ent} {j : Nat} {d : D} {v : V} (h : Sep K H H0 ((some d, some v) :: (some (.lst true xs), u) :: x)) (e : xs[j]? = some (.ptr v)) :
    Sep K H H0 ((some (.lst true (xs.set j d)), u) :: x) := by
  obtain ⟨Hs', fp', t0, t1, ⟨g1, g2, rfl, ⟨w', ew, k1⟩, g3, g4, rfl, ⟨w2, rfl, a', vs', g5, rfl, rfl, ha', k2⟩, k3⟩, n', q'⟩ := h
  cases ew
  obtain ⟨fp2, m1, m2⟩ := k2.join e k1
  have pm2 : (g1 ++ ((a' :: g5) ++ g4)).Perm ((a' :: fp2) ++ g4) := by
    have p1 : (g1 ++ a' :: g5).Perm (a' :: fp2) := List.perm_middle.trans (m2.symm.cons a')
    have := p1.append_right g4
    rwa [List.append_assoc] at this
  exact ⟨Hs', (a' :: fp2) ++ g4, t0, t1, ⟨a' :: fp2, g4, rfl, ⟨_, rfl, a', vs', fp2, rfl, rfl, ha', m1⟩, k3⟩, pm2.nodup_iff.mp n', fun b hb => q' b (pm2.mem_iff.mpr hb)⟩
theorem Sep.outT {xs : List D} {u : Option V} {x : List Ent} {j : Nat} {d : D} (h : Sep K H H0 ((some (.tup xs), u) :: x)) (e : xs[j]? = some d) :
    ∃ a vs v, u = some (.ref a) ∧ SqT K H a vs ∧ vs.length = xs.length ∧ vs[j]? = some v ∧ Sep K H H0 ((some d, some v) :: (some (.tup (xs.set j (.ptr v))), u) :: x) := by
  obtain ⟨Hs, fp, s0, s1, ⟨f1, f2, rfl, ⟨w, rfl, a, vs, rfl, ha, r1⟩, r2⟩, n, q⟩ := h
  obtain ⟨v, f, f', e1, e2, e3, e4⟩ := r1.split e
  have pm : (f1 ++ f2).Perm (f ++ (f' ++ f2)) := by
    have := e4.append_right f2
    rwa [List.append_assoc] at this
  exact ⟨a, vs, v, rfl, seqT_same s1 ha, r1.len, e1, Hs, f ++ (f' ++ f2), s0, s1, ⟨f, _, rfl, ⟨v, rfl, e2⟩, f', f2, rfl, ⟨_, rfl, a, vs, rfl, ha, e3⟩, r2⟩, pm.nodup_iff.mp n, fun b hb => q b (pm.mem_iff.mpr hb)⟩
theorem Sep.backT {xs : List D} {u : Option V} {x : List Ent} {j : Nat} {d : D} {v : V} (h : Sep K H H0 ((some d, some v) :: (some (.tup xs), u) :: x)) (e : xs[j]? = some (.ptr v)) :
    Sep K H H0 ((some (.tup (xs.set j d)), u) :: x) := by
  obtain ⟨Hs', fp', t0, t1, ⟨g1, g2, rfl, ⟨w', ew, k1⟩, g3, g4, rfl, ⟨w2, rfl, a', vs', rfl, ha', k2⟩, k3⟩, n', q'⟩ := h
  cases ew
  obtain ⟨fp2, m1, m2⟩ := k2.join e k1
  have pm2 : (g1 ++ (g3 ++ g4)).Perm (fp2 ++ g4) := by
    have := m2.symm.append_right g4
    rwa [List.append_assoc] at this
  exact ⟨Hs', fp2 ++ g4, t0, t1, ⟨fp2, g4, rfl, ⟨_, rfl, a', vs', rfl, ha', m1⟩, k3⟩, pm2.nodup_iff.mp n', fun b hb => q' b (pm2.mem_iff.mpr hb)⟩
end
end VE

namespace VE
open PySem L2

noncomputable section
def LIM : Nat := 16777216
/-- a side condition (never computed) -/
def okB (p : Prop) : Bool := @decide p (Classical.propDecidable p)
theorem okB_iff {p : Prop} : okB p = true ↔ p := @decide_eq_true_iff p (Classical.propDecidable p)
inductive BO where | add | sub | mul | div | mod | pow | shl
  deriving DecidableEq
inductive CO where | lt | le | gt | ge | eq | ne | isin | nin | isN | isnN
  deriving DecidableEq
inductive PR where | len | abs | min2 | max2 | int | list | tuple | sorted | sum | all | any | max1 | min1
  deriving DecidableEq
inductive TY where | int | bool | tuple | list | str
  deriving DecidableEq
/-- methods that change a list, methods that read -/
inductive MU where | append | pop | popAt | clear | reverse | insert | extend
  deriving DecidableEq
inductive MR where | index | count
  deriving DecidableEq
inductive Pat where | nm (i : Nat) | tp (ps : List Pat)

mutual
inductive E where
  | var (i : Nat) | lit (d : D) | glob (x : Str) (d : D)
  | neg (a : E) | inv (a : E) | bin (o : BO) (a b : E) | cmp (o : CO) (a b : E) | chain (o p : CO) (a b c : E)
  | and (a b : E) | or (a b : E) | ite (c a b : E)
  | tup (es : Es) | lst (es : Es) | dic0
  | ix (a i : E) | sl (a : E) (lo hi : Eo) | rev (a : E)
  | call (f : Nat) (es : Es) | prim (p : PR) (es : Es) | isi (a : E) (t : TY)
  | mut (m : MU) (i : Nat) (path : List Int) (es : Es) | mr (m : MR) (a : E) (es : Es) | nev | lrg (a : E)
  | comp (own : List Nat) (elt : E) (p : Pat) (it : It) (cond : Eo)
inductive Es where | nil | cons (e : E) (r : Es)
inductive Eo where | no | so (e : E)
inductive It where | ex (e : E) | r1 (e : E) | r2 (a b : E) | r3 (a b : E) (c : Int) | enum (e : E) | zip (a b : E)
end
mutual
inductive S where
  | expr (e : E) | asg (p : Pat) (e : E) | par (i j : Nat) (a b : E) | seti (i : Nat) (k : E) (e : E) | aug (i : Nat) (o : BO) (e : E)
  | ife (c : E) (a b : Ss) | whl (c : E) (b : Ss) | fo (p : Pat) (it : It) (b : Ss) | ret (e : E) | retN | brk | cnt | pass | rais (c : Str) | nev | retv (i : Nat)
inductive Ss where | nil | cons (s : S) (r : Ss)
end
structure Fn where
  ar : Nat
  sz : Nat
  body : Ss

/-! #### slots -/
structure Sl where
  org : Bool
  d : Option D
abbrev SS := List Sl
def gt : SS → Nat → Option D
  | [], _ => none
  | a :: _, 0 => a.d
  | _ :: r, n + 1 => gt r n
/-- the thing in a slot, changed -/
def pt : SS → Nat → Option D → SS
  | [], _, _ => []
  | a :: r, 0, d => ⟨a.org, d⟩ :: r
  | a :: r, n + 1, d => a :: pt r n d
/-- a slot, stored -/
def st : SS → Nat → D → SS
  | [], _, _ => []
  | _ :: r, 0, d => ⟨false, some d⟩ :: r
  | a :: r, n + 1, d => a :: st r n d
def wip1 : SS → Nat → SS
  | [], _ => []
  | _ :: r, 0 => ⟨false, none⟩ :: r
  | a :: r, n + 1 => a :: wip1 r n
def wips (s : SS) : List Nat → SS
  | [] => s
  | v :: vs => wip1 (wips s vs) v
/-- slot i as in t -/
def rst1 : SS → SS → Nat → SS
  | a :: s, b :: t, 0 => b :: s
  | a :: s, b :: t, n + 1 => a :: rst1 s t n
  | s, _, _ => s
def rsts (s t : SS) : List Nat → SS
  | [] => s
  | v :: vs => rsts (rst1 s t v) t vs

inductive O (α : Type) where
  | ok (a : α) (s : SS)
  | ex (c : Str) (s : SS)
inductive Fl where
  | nxt | ret (d : D) | brk | cnt | exc (c : Str)
inductive RC where
  | ret (d : D) (outs : List (Option D))
  | exc (c : Str) (outs : List (Option D))
inductive Op where
  | pl (i : Nat)
  | vl (d : D)
def bnd {α β : Type} (r : Option (O α)) (f : α → SS → Option (O β)) : Option (O β) :=
  match r with
  | none => none
  | some (.ok a s) => f a s
  | some (.ex c s) => some (.ex c s)
def bnds {α : Type} (r : Option (O α)) (f : α → SS → Option (Fl × SS)) : Option (Fl × SS) :=
  match r with
  | none => none
  | some (.ok a s) => f a s
  | some (.ex c s) => some (.exc c, s)
@[simp] theorem bnd_ok {α β : Type} {a : α} {s : SS} {f : α → SS → Option (O β)} : bnd (some (.ok a s)) f = f a s := rfl
@[simp] theorem bnd_ex {α β : Type} {c : Str} {s : SS} {f : α → SS → Option (O β)} : bnd (some (.ex c s)) f = some (.ex c s) := rfl
@[simp] theorem bnd_none {α β : Type} {f : α → SS → Option (O β)} : bnd none f = none := rfl
@[simp] theorem bnds_ok {α : Type} {a : α} {s : SS} {f : α → SS → Option (Fl × SS)} : bnds (some (.ok a s)) f = f a s := rfl
@[simp] theorem bnds_ex {α : Type} {c : Str} {s : SS} {f : α → SS → Option (Fl × SS)} : bnds (some (.ex c s)) f = some (.exc c, s) := rfl
@[simp] theorem bnds_none {α : Type} {f : α → SS → Option (Fl × SS)} : bnds none f = none := rfl

/-! #### operators on trees -/
mutual
/-- no dict within, its texts in order, n deep at most -/
def okd : Nat → D → Bool
  | _, .str x => PyData.strOk x
  | 0, .tup _ => false
  | 0, .lst _ _ => false
  | n + 1, .tup xs => okds n xs
  | n + 1, .lst _ xs => okds n xs
  | _, .dic _ _ _ => false
  | _, .ptr _ => false
  | _, .non => true
  | _, .bl _ => true
  | _, .int _ => true
def okds : Nat → List D → Bool
  | _, [] => true
  | n, d :: ds => okd n d && okds n ds
end
def eqD (a b : D) : Bool := PyData.eqv (toPy a) (toPy b)
def intsD : List D → Option (List Int)
  | [] => some []
  | .int i :: r => (intsD r).map (i :: ·)
  | _ => none
def boolsD : List D → Option (List Bool)
  | [] => some []
  | .bl i :: r => (boolsD r).map (i :: ·)
  | _ => none
def insI (x : Int) : List Int → List Int
  | [] => [x]
  | y :: r => if x ≤ y then x :: y :: r else y :: insI x r
def srtI : List Int → List Int
  | [] => []
  | x :: r => insI x (srtI r)
/-- x -/
def binop : BO → D → D → Option D
  | .add, .int i, .int j => some (.int (i + j))
  | .sub, .int i, .int j => some (.int (i - j))
  | .mul, .int i, .int j => if i.natAbs.log2 + j.natAbs.log2 < 1000000 then some (.int (i * j)) else none
  | .div, .int i, .int j => if 0 < j ∧ j.natAbs.log2 < 9000 then some (.int (i / j)) else none
  | .mod, .int i, .int j => if 0 < j then some (.int (i % j)) else none
  | .pow, .int i, .int j => if 0 ≤ j ∧ j ≤ 1000000 ∧ i.natAbs < 2 ^ 64 then some (.int (i ^ j.toNat)) else none
  | .shl, .int i, .int j => if 0 ≤ j ∧ j ≤ 1000000 ∧ i.natAbs < 2 ^ 64 then some (.int (i * 2 ^ j.toNat)) else none
  | .add, .str x, .str y => if x.length + y.length ≤ LIM then some (.str (x ++ y)) else none
  | .add, .lst _ xs, .lst _ ys => if fzs xs && fzs ys && decide (xs.length + ys.length ≤ LIM) then some (.lst true (xs ++ ys)) else none
  | .add, .tup xs, .tup ys => if fzs xs && fzs ys && decide (xs.length + ys.length ≤ LIM) then some (.tup (xs ++ ys)) else none
  | .mul, .lst true xs, .int k => if fzs xs && okB (0 ≤ k ∧ k < 2 ^ 62 ∧ xs.length * k.toNat ≤ LIM) then some (.lst true (List.replicate k.toNat xs).flatten) else none
  | _, _, _ => none
def mem? (neg : Bool) (x : D) (xs : List D) : Option D :=
  if okd 60 x && okds 59 xs then some (.bl (if neg then !(xs.any fun z => eqD z x) else xs.any fun z => eqD z x)) else none
def keyOf : D → Option Key
  | .int i => some (.inl i)
  | .str x => some (.inr x)
  | _ => none
def getK : List Key → List D → Key → Option D
  | k :: ks, d :: ds, x => if k = x then some d else getK ks ds x
  | _, _, _ => none
def isNonD : D → Bool
  | .non => true
  | _ => false
def isPtr : D → Bool
  | .ptr _ => true
  | _ => false
def cmpop : CO → D → D → Option D
  | .lt, .int i, .int j => some (.bl (decide (i < j)))
  | .le, .int i, .int j => some (.bl (decide (i ≤ j)))
  | .gt, .int i, .int j => some (.bl (decide (j < i)))
  | .ge, .int i, .int j => some (.bl (decide (j ≤ i)))
  | .eq, a, b => if okd 60 a && okd 60 b then some (.bl (eqD a b)) else none
  | .ne, a, b => if okd 60 a && okd 60 b then some (.bl (!eqD a b)) else none
  | .isN, a, .non => if isPtr a then none else some (.bl (isNonD a))
  | .isnN, a, .non => if isPtr a then none else some (.bl (!isNonD a))
  | .isin, x, .lst _ xs => mem? false x xs
  | .nin, x, .lst _ xs => mem? true x xs
  | .isin, x, .tup xs => mem? false x xs
  | .nin, x, .tup xs => mem? true x xs
  | .isin, x, .dic _ ks xs => (keyOf x).map fun k => .bl (getK ks xs k).isSome
  | .nin, x, .dic _ ks xs => (keyOf x).map fun k => .bl (!(getK ks xs k).isSome)
  | _, _, _ => none
def ixn (n : Nat) (i : Int) : Option Nat := if 0 ≤ i then (if i < n then some i.toNat else none) else if -(n : Int) ≤ i then some (i + n).toNat else none
def ixop : D → D → Option D
  | .lst _ xs, .int i => (ixn xs.length i).bind fun j => xs[j]?
  | .tup xs, .int i => (ixn xs.length i).bind fun j => xs[j]?
  | .dic _ ks xs, k => (keyOf k).bind fun x => getK ks xs x
  | _, _ => none
def cutD (xs : List D) (lo hi : Option Int) : List D := (xs.drop (HT.sIx xs.length 0 lo)).take (HT.sIx xs.length xs.length hi - HT.sIx xs.length 0 lo)
def slop : D → Option Int → Option Int → Option D
  | .lst _ xs, lo, hi => if fzs xs then some (.lst true (cutD xs lo hi)) else none
  | .tup xs, lo, hi => if fzs xs then some (.tup (cutD xs lo hi)) else none
  | _, _, _ => none
def tyop : D → TY → Bool
  | .int _, .int => true
  | .bl _, .int => true
  | .bl _, .bool => true
  | .tup _, .tuple => true
  | .lst _ _, .list => true
  | .str _, .str => true
  | _, _ => false
def mx1 (m : Int) : List Int → Int
  | [] => m
  | x :: r => mx1 (if x > m then x else m) r
def mn1 (m : Int) : List Int → Int
  | [] => m
  | x :: r => mn1 (if x < m then x else m) r
/-- may be put in order; in order -/
def srtOk (xs : List D) : Prop := PySem.W.AllAlike (xs.map toPy) ∧ PySem.W.Sortable (xs.map toPy) ∧ nds xs = true ∧ (∀ d ∈ xs, (toPy d).depth ≤ 60) ∧ xs.length ≤ LIM
def srtD (xs : List D) : List D := xs.mergeSort (PySem.W.dataLe false toPy)
def prim : PR → List D → Option D
  | .len, [.lst _ xs] => some (.int xs.length)
  | .len, [.tup xs] => some (.int xs.length)
  | .len, [.str x] => if x.length ≤ LIM then some (.int x.length) else none
  | .abs, [.int i] => some (.int (if i < 0 then -i else i))
  | .min2, [.int i, .int j] => some (.int (if j < i then j else i))
  | .max2, [.int i, .int j] => some (.int (if j > i then j else i))
  | .int, [.int i] => some (.int i)
  | .int, [.bl b] => some (.int (if b then 1 else 0))
  | .list, [.lst _ xs] => if fzs xs then some (.lst true xs) else none
  | .list, [.tup xs] => if fzs xs then some (.lst true xs) else none
  | .tuple, [.lst _ xs] => if fzs xs then some (.tup xs) else none
  | .tuple, [.tup xs] => if fzs xs then some (.tup xs) else none
  | .sorted, [.lst _ xs] => (match intsD xs with | some ns => some (.lst true ((srtI ns).map D.int)) | none => if fzs xs && okB (srtOk xs) then some (.lst true (srtD xs)) else none)
  | .sum, [.lst _ xs] => (intsD xs).map fun ns => .int ns.sum
  | .all, [.lst _ xs] => (boolsD xs).map fun bs => .bl (bs.all id)
  | .any, [.lst _ xs] => (boolsD xs).map fun bs => .bl (bs.any id)
  | .max1, [.lst _ xs] => (intsD xs).bind fun ns => match ns with | [] => none | x :: r => some (.int (mx1 x r))
  | .min1, [.lst _ xs] => (intsD xs).bind fun ns => match ns with | [] => none | x :: r => some (.int (mn1 x r))
  | _, _ => none
def fstIx (x : D) : List D → Nat → Option Nat
  | [], _ => none
  | y :: r, n => if eqD y x then some n else fstIx x r (n + 1)
def mrop : MR → D → List D → Option D
  | .index, .lst _ xs, [x] => if okd 60 x && okds 59 xs then (fstIx x xs 0).map fun n => .int (n : Nat) else none
  | _, _, _ => none
/-- what a changing method makes of the list's items, its value -/
def muop : MU → List D → List D → Option (List D × D)
  | .append, xs, [d] => if xs.length < LIM then some (xs ++ [d], .non) else none
  | .pop, xs, [] => (xs[xs.length - 1]?).map fun y => (xs.dropLast, y)
  | .popAt, xs, [.int i] => if okB (-(2 ^ 62) < i ∧ i < 2 ^ 62) then (ixn xs.length i).bind fun j => (xs[j]?).map fun y => (xs.eraseIdx j, y) else none
  | .clear, xs, [] => some ([], .non)
  | .reverse, xs, [] => some (xs.reverse, .non)
  | .insert, xs, [.int i, d] => if okB (xs.length < LIM ∧ 0 ≤ i ∧ i < 2 ^ 62) then some (xs.take i.toNat ++ [d] ++ xs.drop i.toNat, .non) else none
  | .extend, xs, [.lst _ ys] => if fzs ys && decide (xs.length + ys.length ≤ LIM) then some (xs ++ ys, .non) else none
  | _, _, _ => none
/-- the owned list at the end of a path; the tree with another one there -/
def geto : List Int → D → Option (List D)
  | [], .lst true xs => some xs
  | i :: p, .lst true xs => (ixn xs.length i).bind fun j => (xs[j]?).bind fun x => geto p x
  | i :: p, .tup xs => (ixn xs.length i).bind fun j => (xs[j]?).bind fun x => geto p x
  | _, _ => none
def puto (d : D) : List Int → D → D
  | [], _ => d
  | i :: p, .lst o xs => match ixn xs.length i with | some j => (match xs[j]? with | some x => .lst o (xs.set j (puto d p x)) | none => .lst o xs) | none => .lst o xs
  | i :: p, .tup xs => match ixn xs.length i with | some j => (match xs[j]? with | some x => .tup (xs.set j (puto d p x)) | none => .tup xs) | none => .tup xs
  | _, x => x
def ixK (k : Key) : List Key → Option Nat
  | [] => none
  | a :: ks => if a = k then some 0 else (ixK k ks).map (· + 1)
def putK (ks : List Key) (xs : List D) (k : Key) (d : D) : List Key × List D := match ixK k ks with
  | some j => (ks, xs.set j d)
  | none => (ks ++ [k], xs ++ [d])
def setop : D → D → D → Option D
  | .lst true xs, .int i, d => (ixn xs.length i).map fun j => .lst true (xs.set j d)
  | _, _, _ => none
def items : D → Option (List D)
  | .lst _ xs => some xs
  | .tup xs => some xs
  | _ => none
def listItems : D → Option (List D)
  | .lst _ xs => some xs
  | _ => none
mutual
def bind : Pat → D → SS → Option SS
  | .nm i, d, s => if i < s.length then some (st s i d) else none
  | .tp ps, .tup xs, s => binds ps xs s
  | .tp _, _, _ => none
def binds : List Pat → List D → SS → Option SS
  | [], [], s => some s
  | p :: ps, d :: ds, s => match bind p d s with | some s => binds ps ds s | none => none
  | _, _, _ => none
end
/-- one argument of a call: a place is lent (what is owned leaves its slot) -/
def mv1 : Op → SS → Option (D × SS)
  | .vl d, s => some (d, s)
  | .pl i, s => match gt s i with | some d => some (d, if fz d then s else pt s i none) | none => none
def mvs : List Op → SS → Option (List D × SS)
  | [], s => some ([], s)
  | o :: os, s => match mv1 o s with | some (d, s) => (match mvs os s with | some (ds, s) => some (d :: ds, s) | none => none) | none => none
def bk1 : Op → Option D → SS → Option SS
  | .vl _, _, s => some s
  | .pl i, o, s => match gt s i with | some _ => some s | none => o.map fun d => pt s i (some d)
def bks : List Op → List (Option D) → SS → Option SS
  | [], [], s => some s
  | o :: os, d :: ds, s => match bk1 o d s with | some s => bks os ds s | none => none
  | _, _, _ => none
def view (s : SS) : Op → Option D
  | .pl i => gt s i
  | .vl d => some d
def views (s : SS) : List Op → Option (List D)
  | [] => some []
  | o :: os => match view s o, views s os with | some d, some ds => some (d :: ds) | _, _ => none
def evo (e : E) (r : SS → Option (O D)) (s : SS) : Option (O Op) :=
  match e with
  | .var i => (match gt s i with | some _ => some (.ok (.pl i) s) | none => none)
  | _ => bnd (r s) fun d s => some (.ok (.vl d) s)
def isL : Option D → Bool
  | some (.lst _ _) => true
  | _ => false
def up (r : Option D) (s : SS) : Option (O D) := match r with | some d => some (.ok d s) | none => none
/-- an item; where it owns something, what it stands in is locked -/
def ixEnd (x : Op) (d g : D) (s : SS) : Option (O D) :=
  if fz g then some (.ok g s) else match x with
    | .pl i => some (.ok (frz g) (pt s i (some (frz d))))
    | .vl _ => some (.ok (frz g) s)
def ixAll (x : Op) (k : D) (s : SS) : Option (O D) := (view s x).bind fun d => (ixop d k).bind fun g => ixEnd x d g s
def mutEnd (m : MU) (i : Nat) (path : List Int) (ds : List D) (s : SS) : Option (O D) := (gt s i).bind fun d => (geto path d).bind fun xs => (muop m xs ds).map fun r => .ok r.2 (pt s i (some (puto (.lst true r.1) path d)))
mutual
/-- written data -/
def simple : E → Bool
  | .lit _ => true
  | .tup es => simples es
  | .neg a => simple a
  | _ => false
def simples : Es → Bool
  | .nil => true
  | .cons e r => simple e && simples r
end
def compL (f : D → SS → Option (O (Option D))) (vs : List Nat) : List D → List D → SS → Option (O D)
  | [], acc, s => some (.ok (.lst true acc) s)
  | x :: xs, acc, s => match f x s with
    | some (.ok (some d) s) => if acc.length < LIM then compL f vs xs (acc ++ [d]) (wips s vs) else none
    | some (.ok none s) => compL f vs xs acc (wips s vs)
    | _ => none
def forL (f : D → SS → Option (Fl × SS)) : List D → SS → Option (Fl × SS)
  | [], s => some (.nxt, s)
  | x :: xs, s => match f x s with
    | some (.nxt, s) => forL f xs s
    | some (.cnt, s) => forL f xs s
    | some (.brk, s) => some (.nxt, s)
    | r => r
def whlL (c : SS → Option (O D)) (b : SS → Option (Fl × SS)) : Nat → SS → Option (Fl × SS)
  | 0, _ => none
  | n + 1, s => bnds (c s) fun t s => match t with
    | .bl true => (match b s with
      | some (.nxt, s) => whlL c b n s
      | some (.cnt, s) => whlL c b n s
      | some (.brk, s) => some (.nxt, s)
      | r => r)
    | .bl false => some (.nxt, s)
    | _ => none
def ownOk (s : SS) (vs : List Nat) : Bool := vs.all fun v => match gt s v with | some d => fz d | none => true
def rngOk (i : Int) : Bool := okB (-(2 ^ 62) ≤ i ∧ i < 2 ^ 62)
def rng (i : Int) (n : Nat) : List D := (List.range n).map fun k : Nat => D.int (i + (k : Int))

section
variable (Φ : Nat → List D → Option RC) (w : Nat)
mutual
def ev : E → SS → Option (O D)
  | .var i, s => (match gt s i with | some d => if fz d then some (.ok d s) else some (.ok (frz d) (pt s i (some (frz d)))) | none => none)
  | .lit d, s => some (.ok d s)
  | .glob _ d, s => some (.ok d s)
  | .neg a, s => bnd (ev a s) fun d s => match d with | .int i => some (.ok (.int (-i)) s) | _ => none
  | .inv a, s => bnd (ev a s) fun d s => match d with | .bl b => some (.ok (.bl (!b)) s) | _ => none
  | .bin o a b, s => bnd (evo a (ev a) s) fun x s => bnd (evo b (ev b) s) fun y s => (match view s x, view s y with | some d, some e => up (binop o d e) s | _, _ => none)
  | .cmp o a b, s => bnd (evo a (ev a) s) fun x s => bnd (evo b (ev b) s) fun y s => (match view s x, view s y with | some d, some e => up (cmpop o d e) s | _, _ => none)
  | .chain o p a b c, s => bnd (ev a s) fun x s => bnd (ev b s) fun y s => (match x, y with
      | .int i, .int j => (match cmpop o (.int i) (.int j) with
        | some (.bl true) => bnd (ev c s) fun z s => (match z with | .int k => up (cmpop p (.int j) (.int k)) s | _ => none)
        | some (.bl false) => some (.ok (.bl false) s)
        | _ => none)
      | _, _ => none)
  | .and a b, s => bnd (ev a s) fun d s => (match d with | .bl true => ev b s | .bl false => some (.ok (.bl false) s) | _ => none)
  | .or a b, s => bnd (ev a s) fun d s => (match d with | .bl true => some (.ok (.bl true) s) | .bl false => ev b s | _ => none)
  | .ite c a b, s => bnd (ev c s) fun d s => (match d with | .bl true => ev a s | .bl false => ev b s | _ => none)
  | .tup es, s => bnd (evs es s) fun ds s => if ds.length ≤ LIM then some (.ok (.tup ds) s) else none
  | .lst es, s => bnd (evs es s) fun ds s => if ds.length ≤ LIM then some (.ok (.lst true ds) s) else none
  | .dic0, s => some (.ok (.dic true [] []) s)
  | .nev, s => none
  | .lrg a, s => bnd (ev a s) fun d s => (match d with | .int j => if okB (-(2 ^ 62) ≤ j ∧ j ≤ (LIM : Int)) then some (.ok (.lst true (rng 0 j.toNat)) s) else none | _ => none)
  | .ix a i, s => bnd (evo a (ev a) s) fun x s => bnd (ev i s) fun k s => ixAll x k s
  | .sl a lo hi, s => bnd (evo a (ev a) s) fun x s => bnd (evi lo s) fun l s => bnd (evi hi s) fun h s => (match view s x with | some d => up (slop d l h) s | none => none)
  | .rev a, s => bnd (evo a (ev a) s) fun x s => (match view s x with | some (.lst _ xs) => if fzs xs then some (.ok (.lst true xs.reverse) s) else none | _ => none)
  | .call f es, s => bnd (evos es s) fun os s => (match mvs os s with
      | some (ds, s) => (match Φ f ds with
        | some (.ret d outs) => (match bks os outs s with | some s => some (.ok d s) | none => none)
        | some (.exc c outs) => (match bks os outs s with | some s => some (.ex c s) | none => none)
        | none => none)
      | none => none)
  | .prim p es, s => bnd (evos es s) fun os s => (match views s os with | some ds => up (prim p ds) s | none => none)
  | .isi a t, s => bnd (evo a (ev a) s) fun x s => (match view s x with | some d => if isPtr d then none else some (.ok (.bl (tyop d t)) s) | none => none)
  | .mut m i path es, s => if path.isEmpty || simples es then (match gt s i with
      | some d => (match geto path d with
        | some _ => bnd (evs es s) fun ds s => mutEnd m i path ds s
        | none => none)
      | none => none) else none
  | .mr m a es, s => bnd (evo a (ev a) s) fun x s => if isL (view s x) then bnd (evos es s) fun ops s => (match view s x, views s ops with | some d, some ds => up (mrop m d ds) s | _, _ => none) else none
  | .comp own elt p it cond, s => bnd (evt it s) fun xs s => if ownOk s own then
      (match compL (fun x s => match bind p x s with
        | some s => bnd (evc cond s) fun b s => if b then bnd (ev elt s) fun d s => some (.ok (some d) s) else some (.ok none s)
        | none => none) own xs [] (wips s own) with
      | some (.ok d t) => some (.ok d (rsts t s own))
      | _ => none) else none
def evs : Es → SS → Option (O (List D))
  | .nil, s => some (.ok [] s)
  | .cons e r, s => bnd (ev e s) fun d s => bnd (evs r s) fun ds s => some (.ok (d :: ds) s)
def evos : Es → SS → Option (O (List Op))
  | .nil, s => some (.ok [] s)
  | .cons e r, s => bnd (evo e (ev e) s) fun d s => bnd (evos r s) fun ds s => some (.ok (d :: ds) s)
/-- a slice's end -/
def evi : Eo → SS → Option (O (Option Int))
  | .no, s => some (.ok none s)
  | .so e, s => bnd (ev e s) fun d s => (match d with | .int i => some (.ok (some i) s) | _ => none)
/-- a comprehension's test -/
def evc : Eo → SS → Option (O Bool)
  | .no, s => some (.ok true s)
  | .so e, s => bnd (ev e s) fun d s => (match d with | .bl b => some (.ok b s) | _ => none)
def evt : It → SS → Option (O (List D))
  | .ex e, s => bnd (ev e s) fun d s => (match items (frz d) with | some xs => some (.ok xs s) | none => none)
  | .r1 e, s => bnd (ev e s) fun d s => (match d with | .int j => if rngOk j then some (.ok (rng 0 j.toNat) s) else none | _ => none)
  | .r2 a b, s => bnd (ev a s) fun d s => bnd (ev b s) fun e s => (match d, e with | .int i, .int j => if rngOk i && rngOk j then some (.ok (rng i (j - i).toNat) s) else none | _, _ => none)
  | .r3 a b c, s => none
  | .enum e, s => bnd (ev e s) fun d s => (match listItems (frz d) with | some xs => some (.ok (xs.zipIdx.map fun p => .tup [.int (p.2 : Int), p.1]) s) | none => none)
  | .zip a b, s => bnd (ev a s) fun d s => bnd (ev b s) fun e s => (match listItems (frz d), listItems (frz e) with | some xs, some ys => some (.ok ((xs.zip ys).map fun p => .tup [p.1, p.2]) s) | _, _ => none)
end
mutual
def ex : S → SS → Option (Fl × SS)
  | .expr e, s => bnds (ev Φ e s) fun _ s => some (.nxt, s)
  | .asg p e, s => bnds (ev Φ e s) fun d s => (match bind p d s with | some s => some (.nxt, s) | none => none)
  | .par i j a b, s => bnds (ev Φ a s) fun d s => bnds (ev Φ b s) fun e s => if i < s.length ∧ j < s.length then some (.nxt, st (st s i d) j e) else none
  | .seti i k e, s => bnds (ev Φ e s) fun d s => (match gt s i with
      | some _ => bnds (ev Φ k s) fun k s => (match gt s i with
        | some c => (match setop c k d with | some c => some (.nxt, pt s i (some c)) | none => none)
        | none => none)
      | none => none)
  | .aug i o e, s => (match gt s i with
      | some (.int x) => bnds (ev Φ e s) fun d s => (match d with
        | .int y => if i < s.length then (match o with
          | .add => some (.nxt, st s i (.int (x + y)))
          | .sub => some (.nxt, st s i (.int (x - y)))
          | _ => none) else none
        | _ => none)
      | _ => none)
  | .ife c a b, s => bnds (ev Φ c s) fun d s => (match d with | .bl true => exs a s | .bl false => exs b s | _ => none)
  | .whl c b, s => whlL (ev Φ c) (exs b) w s
  | .fo p it b, s => bnds (evt Φ it s) fun xs s => forL (fun x s => match bind p x s with | some s => exs b s | none => none) xs s
  | .ret e, s => bnds (ev Φ e s) fun d s => some (.ret d, s)
  | .retN, s => some (.ret .non, s)
  | .retv i, s => (match gt s i with | some d => some (.ret d, pt s i none) | none => none)
  | .brk, s => some (.brk, s)
  | .cnt, s => some (.cnt, s)
  | .pass, s => some (.nxt, s)
  | .nev, s => none
  | .rais c, s => some (.exc c, s)
def exs : Ss → SS → Option (Fl × SS)
  | .nil, s => some (.nxt, s)
  | .cons a r, s => (match ex a s with | some (.nxt, s) => exs r s | x => x)
end
end
def outs (ar : Nat) (s : SS) : List (Option D) := (s.take ar).map fun a => if a.org then a.d else none
def start (fn : Fn) (ds : List D) : SS := ds.map (fun d => ⟨true, some d⟩) ++ List.replicate (fn.sz - fn.ar) ⟨false, none⟩
def run (P : List Fn) (w : Nat) : Nat → Nat → List D → Option RC
  | 0, _, _ => none
  | n + 1, f, ds => match P[f]? with
    | none => none
    | some fn => if ds.length = fn.ar then
        (match exs (run P w n) w fn.body (start fn ds) with
        | some (.nxt, s) => some (.ret .non (outs fn.ar s))
        | some (.ret d, s) => some (.ret d (outs fn.ar s))
        | some (.exc c, s) => some (.exc c (outs fn.ar s))
        | _ => none) else none
end
end VE

namespace VE
open PySem L2 PyProof.Rows
def ents (s : SS) (σ : L2.St) : List Ent := List.zip (s.map (·.d)) σ
structure Ok (K : PySem.W.Frag) (H0 H : Hp) (T : List Ent) (s : SS) (σ0 σ : L2.St) : Prop where
  len : s.length = σ.length
  sep : Sep K H H0 (T ++ ents s σ)
  org : ∀ (i : Nat) (a : Sl), s[i]? = some a → a.org = true → σ[i]? = σ0[i]?
def At (T : List Ent) (σ : L2.St) (o : Op) (v : V) : Prop := match o with
  | .vl d => (some d, some v) ∈ T
  | .pl i => σ[i]? = some (some v)
def oe (o : Op) (v : V) : Ent := match o with
  | .vl d => (some d, some v)
  | .pl _ => (none, some v)
theorem gt_eq : ∀ (s : SS) (i : Nat), gt s i = (s[i]?).bind (·.d)
  | [], i => by simp [gt]
  | a :: r, 0 => by simp [gt]
  | a :: r, n + 1 => by simp [gt, gt_eq r n]
theorem pt_eq : ∀ (s : SS) (i : Nat) (d : Option D), pt s i d = (match s[i]? with | some a => s.set i ⟨a.org, d⟩ | none => s)
  | [], i, d => by simp [pt]
  | a :: r, 0, d => by simp [pt]
  | a :: r, n + 1, d => by
    simp only [pt, pt_eq r n d, List.getElem?_cons_succ]
    cases r[n]? <;> simp
theorem st_eq : ∀ (s : SS) (i : Nat) (d : D), st s i d = s.set i ⟨false, some d⟩
  | [], i, d => by simp [st]
  | a :: r, 0, d => by simp [st]
  | a :: r, n + 1, d => by simp [st, st_eq r n d]
theorem pt_len (s : SS) (i : Nat) (d : Option D) : (pt s i d).length = s.length := by
  rw [pt_eq]
  cases s[i]? <;> simp
theorem st_len (s : SS) (i : Nat) (d : D) : (st s i d).length = s.length := by simp [st_eq]
theorem gt_some {s : SS} {i : Nat} {d : D} (h : gt s i = some d) : ∃ a, s[i]? = some a ∧ a.d = some d := by
  rw [gt_eq] at h
  cases e : s[i]? with
  | none => rw [e] at h; cases h
  | some a => rw [e] at h; exact ⟨a, rfl, h⟩
theorem zip_get {α β : Type} {a : List α} {b : List β} {i : Nat} {x : α} {y : β} (h1 : a[i]? = some x) (h2 : b[i]? = some y) : (a.zip b)[i]? = some (x, y) := by
  rw [List.getElem?_zip_eq_some]
  exact ⟨h1, h2⟩
theorem zip_set {α β : Type} (a : List α) (b : List β) (i : Nat) (x : α) (y : β) : (a.set i x).zip (b.set i y) = (a.zip b).set i (x, y) := by
  induction a generalizing b i with
  | nil => simp
  | cons p a ih =>
    cases b with
    | nil => cases i <;> simp
    | cons q b =>
      cases i with
      | zero => simp
      | succ i => simp [ih]
theorem ents_set (s : SS) (σ : L2.St) (i : Nat) (a : Sl) (v : Option V) : ents (s.set i a) (σ.set i v) = (ents s σ).set i (a.d, v) := by
  unfold ents
  rw [List.map_set, zip_set]
theorem ents_get {s : SS} {σ : L2.St} {i : Nat} {a : Sl} {v : Option V} (h1 : s[i]? = some a) (h2 : σ[i]? = some v) : (ents s σ)[i]? = some (a.d, v) := by
  refine zip_get ?_ h2
  rw [List.getElem?_map, h1]
  rfl
theorem set_self {α : Type} {l : List α} {i : Nat} {x : α} (h : l[i]? = some x) : l.set i x = l := by
  apply List.ext_getElem?
  intro j
  by_cases hj : i = j
  · subst hj
    rw [List.getElem?_set_self (List.getElem?_eq_some_iff.mp h).1, h]
  · rw [List.getElem?_set_ne hj]
section
variable {K : PySem.W.Frag} {H0 H H' : Hp} {T : List Ent} {s : SS} {σ0 σ : L2.St}
theorem Ok.slot (h : Ok K H0 H T s σ0 σ) {i : Nat} {a : Sl} (e : s[i]? = some a) : ∃ v, σ[i]? = some v ∧ (ents s σ)[i]? = some (a.d, v) := by
  have hi : i < σ.length := by rw [← h.len]; exact (List.getElem?_eq_some_iff.mp e).1
  exact ⟨σ[i], List.getElem?_eq_getElem hi, ents_get e (List.getElem?_eq_getElem hi)⟩
theorem Ok.gt (h : Ok K H0 H T s σ0 σ) {i : Nat} {d : D} (e : gt s i = some d) : ∃ v, σ[i]? = some (some v) ∧ (ents s σ)[i]? = some (some d, some v) := by
  obtain ⟨a, ea, ed⟩ := gt_some e
  obtain ⟨v, hv, en⟩ := h.slot ea
  rw [ed] at en
  obtain ⟨u, eu⟩ := ((Sep.focus en).mp h.sep).val
  subst eu
  exact ⟨u, hv, en⟩
theorem Ok.at (h : Ok K H0 H T s σ0 σ) {o : Op} {v : V} {d : D} (a : At T σ o v) (e : view s o = some d) : ∃ R, (T ++ ents s σ).Perm ((some d, some v) :: R) := by
  cases o with
  | vl d' =>
    cases e
    obtain ⟨A, B, rfl⟩ := List.append_of_mem (show (some d, some v) ∈ T from a)
    exact ⟨A ++ B ++ ents s σ, by
      rw [List.append_assoc, List.append_assoc]
      exact List.perm_middle⟩
  | pl i =>
    obtain ⟨u, hu, en⟩ := h.gt (show VE.gt s i = some d from e)
    have a : σ[i]? = some (some v) := a
    rw [a] at hu
    cases hu
    exact ⟨T ++ (ents s σ).eraseIdx i, ((perm_erase en).append_left T).trans List.perm_middle⟩
theorem Ok.mono (h : Ok K H0 H T s σ0 σ) (e : Same H H') : Ok K H0 H' T s σ0 σ := ⟨h.len, h.sep.mono e, h.org⟩
theorem Ok.permT {T' : List Ent} (h : Ok K H0 H T s σ0 σ) (p : T.Perm T') : Ok K H0 H T' s σ0 σ := ⟨h.len, h.sep.perm (p.append_right _), h.org⟩
theorem Ok.sub {X Y : List Ent} (h : Ok K H0 H (X ++ (Y ++ T)) s σ0 σ) : Ok K H0 H (X ++ T) s σ0 σ := by
  refine ⟨h.len, ?_, h.org⟩
  have p : ((X ++ (Y ++ T)) ++ ents s σ).Perm (Y ++ ((X ++ T) ++ ents s σ)) := by
    have q := (List.perm_append_comm (l₁ := X) (l₂ := Y)).append_right (T ++ ents s σ)
    simpa only [List.append_assoc] using q
  exact (h.sep.perm p).dropA
theorem Ok.tail {e : Ent} (h : Ok K H0 H (e :: T) s σ0 σ) : Ok K H0 H T s σ0 σ := h.sub (X := []) (Y := [e])
theorem Ok.skip {r e : Ent} (h : Ok K H0 H (r :: e :: T) s σ0 σ) : Ok K H0 H (r :: T) s σ0 σ := h.sub (X := [r]) (Y := [e])
theorem Ok.skip2 {r e f : Ent} (h : Ok K H0 H (r :: e :: f :: T) s σ0 σ) : Ok K H0 H (r :: T) s σ0 σ := h.sub (X := [r]) (Y := [e, f])
/-- an entry more, by a step on the heads -/
theorem Ok.lift {T' : List Ent} (h : Ok K H0 H T s σ0 σ) (f : Sep K H H0 (T ++ ents s σ) → Sep K H' H0 (T' ++ ents s σ)) : Ok K H0 H' T' s σ0 σ := ⟨h.len, f h.sep, h.org⟩
theorem Ok.scal {d : D} {v : V} (h : Ok K H0 H T s σ0 σ) (r : ∀ Hs, Rep K Hs H d v []) : Ok K H0 H ((some d, some v) :: T) s σ0 σ := h.lift fun q => q.scal r
theorem Ok.int {i : Int} (h : Ok K H0 H T s σ0 σ) : Ok K H0 H ((some (.int i), some (.int i)) :: T) s σ0 σ := h.lift Sep.int
theorem Ok.bl {i : Bool} (h : Ok K H0 H T s σ0 σ) : Ok K H0 H ((some (.bl i), some (.bl i)) :: T) s σ0 σ := h.lift Sep.bl
theorem Ok.str {i : Str} (h : Ok K H0 H T s σ0 σ) : Ok K H0 H ((some (.str i), some (.str i)) :: T) s σ0 σ := h.lift Sep.str
theorem Ok.nonD (h : Ok K H0 H T s σ0 σ) : Ok K H0 H ((some .non, some .non) :: T) s σ0 σ := h.lift Sep.nonD
/-- the thing in slot i is changed, with what lies at the head -/
theorem Ok.change {T' : List Ent} {i : Nat} {d : D} {d' : Option D} (h : Ok K H0 H T s σ0 σ) (e : VE.gt s i = some d)
    (f : ∀ v R, σ[i]? = some (some v) → Sep K H H0 ((some d, some v) :: (T ++ R)) → Sep K H' H0 ((d', some v) :: (T' ++ R))) : Ok K H0 H' T' (pt s i d') σ0 σ := by
  obtain ⟨a, ea, ed⟩ := gt_some e
  obtain ⟨v, hv, en⟩ := h.gt e
  have hi : i < (ents s σ).length := (List.getElem?_eq_some_iff.mp en).1
  have q := f v _ hv ((Sep.focus en).mp h.sep)
  have z := Sep.put hi q
  have ez : ents (pt s i d') σ = (ents s σ).set i (d', some v) := by
    rw [pt_eq, ea]
    show ents (s.set i ⟨a.org, d'⟩) σ = _
    have := ents_set s σ i ⟨a.org, d'⟩ (some v)
    rw [set_self hv] at this
    exact this
  refine ⟨by rw [pt_len]; exact h.len, by rw [ez]; exact z, fun j b hb ho => ?_⟩
  rw [pt_eq, ea] at hb
  have hb : (s.set i ⟨a.org, d'⟩)[j]? = some b := hb
  by_cases hj : i = j
  · subst hj
    rw [List.getElem?_set_self (List.getElem?_eq_some_iff.mp ea).1] at hb
    cases hb
    exact h.org i a ea ho
  · rw [List.getElem?_set_ne hj] at hb
    exact h.org j b hb ho
/-- .. told of the very rest -/
theorem Ok.changeZ {T' : List Ent} {i : Nat} {d : D} {d' : Option D} {v : V} (h : Ok K H0 H T s σ0 σ) (e : VE.gt s i = some d) (hv : σ[i]? = some (some v))
    (z : Sep K H' H0 ((d', some v) :: (T' ++ (ents s σ).eraseIdx i))) : Ok K H0 H' T' (pt s i d') σ0 σ := by
  obtain ⟨a, ea, ed⟩ := gt_some e
  obtain ⟨u, hu, en⟩ := h.gt e
  rw [hv] at hu
  cases hu
  have hi : i < (ents s σ).length := (List.getElem?_eq_some_iff.mp en).1
  have z := Sep.put hi z
  have ez : ents (pt s i d') σ = (ents s σ).set i (d', some v) := by
    rw [pt_eq, ea]
    show ents (s.set i ⟨a.org, d'⟩) σ = _
    have := ents_set s σ i ⟨a.org, d'⟩ (some v)
    rw [set_self hv] at this
    exact this
  refine ⟨by rw [pt_len]; exact h.len, by rw [ez]; exact z, fun j b hb ho => ?_⟩
  rw [pt_eq, ea] at hb
  have hb : (s.set i ⟨a.org, d'⟩)[j]? = some b := hb
  by_cases hj : i = j
  · subst hj
    rw [List.getElem?_set_self (List.getElem?_eq_some_iff.mp ea).1] at hb
    cases hb
    exact h.org i a ea ho
  · rw [List.getElem?_set_ne hj] at hb
    exact h.org j b hb ho
/-- slot i is stored -/
theorem Ok.store {i : Nat} {d : D} {v : V} (h : Ok K H0 H ((some d, some v) :: T) s σ0 σ) (hi : i < s.length) : Ok K H0 H T (st s i d) σ0 (σ.set i (some v)) := by
  have hσ : i < σ.length := by rw [← h.len]; exact hi
  have en : (ents s σ)[i]? = some (s[i].d, σ[i]) := ents_get (List.getElem?_eq_getElem hi) (List.getElem?_eq_getElem hσ)
  have hl : i < (ents s σ).length := (List.getElem?_eq_some_iff.mp en).1
  have q := (Sep.focus en).mp h.sep
  have q2 : Sep K H H0 ((some d, some v) :: (T ++ (ents s σ).eraseIdx i)) := q.drop
  have z := Sep.put hl q2
  have ez : ents (st s i d) (σ.set i (some v)) = (ents s σ).set i (some d, some v) := by
    rw [st_eq]
    exact ents_set s σ i _ _
  refine ⟨by rw [st_len, List.length_set]; exact h.len, by rw [ez]; exact z, fun j b hb ho => ?_⟩
  rw [st_eq] at hb
  by_cases hj : i = j
  · subst hj
    rw [List.getElem?_set_self hi] at hb
    cases hb
    cases ho
  · rw [List.getElem?_set_ne hj] at hb
    rw [List.getElem?_set_ne hj]
    exact h.org j b hb ho
end
/-! #### readings -/
section
variable (K : PySem.W.Frag) (mg : Str → Option Value) (W : WX)
def PostE (H0 : Hp) (T : List Ent) (σ0 σ : L2.St) (Q : VK) : O D → Prop
  | .ok d s' => ∀ H' v, Ok K H0 H' ((some d, some v) :: T) s' σ0 σ → Q v H'
  | .ex c s' => ∀ H' C, mg c = some (.ref C) → Ok K H0 H' T s' σ0 σ → W (.ref C) none σ H'
def tE (r : SS → Option (O D)) : TE := fun σ H Q => ∃ H0 T s σ0 o, Ok K H0 H T s σ0 σ ∧ r s = some o ∧ PostE K mg W H0 T σ0 σ Q o
def PostO (H0 : Hp) (T : List Ent) (σ0 σ : L2.St) (Q : VK) : O Op → Prop
  | .ok p s' => ∀ H' v, At (oe p v :: T) σ p v → Ok K H0 H' (oe p v :: T) s' σ0 σ → Q v H'
  | .ex c s' => ∀ H' C, mg c = some (.ref C) → Ok K H0 H' T s' σ0 σ → W (.ref C) none σ H'
def tO (r : SS → Option (O Op)) : TE := fun σ H Q => ∃ H0 T s σ0 o, Ok K H0 H T s σ0 σ ∧ r s = some o ∧ PostO K mg W H0 T σ0 σ Q o
def tT (r : SS → Option (O D)) : TT := fun σ H Q => tE K mg W r σ H fun v H' => ∃ b, v = .bl b ∧ Q b H'
/-- displays' items -/
def PostEs (H0 : Hp) (T : List Ent) (σ0 σ : L2.St) (Q : List V → Hp → Prop) : O (List D) → Prop
  | .ok ds s' => ∀ H' vs, vs.length = ds.length → Ok K H0 H' (es (ds.zip vs) ++ T) s' σ0 σ → Q vs H'
  | .ex c s' => ∀ H' C, mg c = some (.ref C) → Ok K H0 H' T s' σ0 σ → W (.ref C) none σ H'
def tEs (r : SS → Option (O (List D))) : TA := fun σ H Q => ∃ H0 T s σ0 o, Ok K H0 H T s σ0 σ ∧ r s = some o ∧ PostEs K mg W H0 T σ0 σ Q o
def AtAll (T : List Ent) (σ : L2.St) : List Op → List V → Prop
  | [], vs => vs = []
  | o :: os, vs => ∃ v vs', vs = v :: vs' ∧ At T σ o v ∧ AtAll T σ os vs'
/-- arguments -/
def PostOs (H0 : Hp) (T : List Ent) (σ0 σ : L2.St) (Q : List V → Hp → Prop) : O (List Op) → Prop
  | .ok os s' => ∀ H' vs, vs.length = os.length → AtAll (List.zipWith oe os vs ++ T) σ os vs → Ok K H0 H' (List.zipWith oe os vs ++ T) s' σ0 σ → Q vs H'
  | .ex c s' => ∀ H' C, mg c = some (.ref C) → Ok K H0 H' T s' σ0 σ → W (.ref C) none σ H'
def tOs (r : SS → Option (O (List Op))) : TA := fun σ H Q => ∃ H0 T s σ0 o, Ok K H0 H T s σ0 σ ∧ r s = some o ∧ PostOs K mg W H0 T σ0 σ Q o
/-- a block's end -/
def PostS (H0 : Hp) (T : List Ent) (σ0 : L2.St) (D : Ends) : Fl → SS → Prop
  | .nxt, s' => ∀ σ' H', Ok K H0 H' T s' σ0 σ' → D.nx σ' H'
  | .ret d, s' => ∀ σ' H' v, Ok K H0 H' ((some d, some v) :: T) s' σ0 σ' → D.rt v H'
  | .brk, s' => ∀ σ' H', Ok K H0 H' T s' σ0 σ' → D.bk σ' H'
  | .cnt, s' => ∀ σ' H', Ok K H0 H' T s' σ0 σ' → D.ct σ' H'
  | .exc c, s' => ∀ σ' H' C, mg c = some (.ref C) → Ok K H0 H' T s' σ0 σ' → W (.ref C) none σ' H'
def tS (r : SS → Option (Fl × SS)) : TS := fun D σ H => ∃ H0 T s σ0 f s', Ok K H0 H T s σ0 σ ∧ r s = some (f, s') ∧ PostS K mg W H0 T σ0 D f s'
end
section
variable {K : PySem.W.Frag} {mg : Str → Option Value} {W : WX} {X : Cx}
theorem peImp {e : Expr} {t t' : TE} (h : PE X e t) (k : ∀ σ H Q, t' σ H Q → t σ H Q) : PE X e t' := ⟨fun pins s σ H Q I q => h.run pins s σ H Q I (k σ H Q q)⟩
theorem ptImp {e : Expr} {t t' : TT} (h : PT X e t) (k : ∀ σ H Q, t' σ H Q → t σ H Q) : PT X e t' := ⟨fun pins s σ H Q I q => h.run pins s σ H Q I (k σ H Q q)⟩
theorem pwImp {e : Expr} {t t' : TT} (h : PW X e t) (k : ∀ σ H Q, t' σ H Q → t σ H Q) : PW X e t' := ⟨fun wh pins s σ H Q I q => h.run wh pins s σ H Q I (k σ H Q q)⟩
theorem paImp {e : List Expr} {t t' : TA} (h : PA X e t) (k : ∀ σ H Q, t' σ H Q → t σ H Q) : PA X e t' := ⟨fun pos pins s σ H Q I q => h.run pos pins s σ H Q I (k σ H Q q)⟩
theorem psImp {e : Stmt} {t t' : TS} (h : PS X e t) (k : ∀ D σ H, t' D σ H → t D σ H) : PS X e t' := ⟨fun pins s σ H D I q => h.run pins s σ H D I (k D σ H q)⟩
theorem pssImp {e : List Stmt} {t t' : TS} (h : PSs X e t) (k : ∀ D σ H, t' D σ H → t D σ H) : PSs X e t' := ⟨fun pins s σ H D I q => h.run pins s σ H D I (k D σ H q)⟩
/-- a reading by its first part: what comes behind is told of the state there -/
theorem tE_bnd {r : SS → Option (O D)} {f : D → SS → Option (O D)} {σ : L2.St} {H : Hp} {Q : VK} {H0 : Hp} {T : List Ent} {s : SS} {σ0 : L2.St} {o : O D} (k : Ok K H0 H T s σ0 σ) (e : bnd (r s) f = some o)
    (p : PostE K mg W H0 T σ0 σ Q o) {R : VK}
    (g : ∀ d s1, r s = some (.ok d s1) → f d s1 = some o → ∀ H1 v, Ok K H0 H1 ((some d, some v) :: T) s1 σ0 σ → R v H1) : tE K mg W r σ H R := by
  cases er : r s with
  | none => rw [er] at e; cases e
  | some q =>
    rw [er] at e
    cases q with
    | ok d s1 => exact ⟨H0, T, s, σ0, .ok d s1, k, er, g d s1 er e⟩
    | ex c s1 =>
      have e : some (O.ex c s1) = some o := e
      cases e
      exact ⟨H0, T, s, σ0, .ex c s1, k, er, p⟩
theorem tO_bnd {r : SS → Option (O Op)} {f : Op → SS → Option (O D)} {σ : L2.St} {H : Hp} {Q : VK} {H0 : Hp} {T : List Ent} {s : SS} {σ0 : L2.St} {o : O D} (k : Ok K H0 H T s σ0 σ) (e : bnd (r s) f = some o)
    (p : PostE K mg W H0 T σ0 σ Q o) {R : VK}
    (g : ∀ d s1, r s = some (.ok d s1) → f d s1 = some o → ∀ H1 v, At (oe d v :: T) σ d v → Ok K H0 H1 (oe d v :: T) s1 σ0 σ → R v H1) : tO K mg W r σ H R := by
  cases er : r s with
  | none => rw [er] at e; cases e
  | some q =>
    rw [er] at e
    cases q with
    | ok d s1 => exact ⟨H0, T, s, σ0, .ok d s1, k, er, g d s1 er e⟩
    | ex c s1 =>
      have e : some (O.ex c s1) = some o := e
      cases e
      exact ⟨H0, T, s, σ0, .ex c s1, k, er, p⟩
end
end VE

namespace VE
open PySem L2 PyProof.Rows
theorem LIM_eq : LIM = sizeLine := by
  rw [sizeLine_eq]
  rfl
section
variable {K : PySem.W.Frag} {H0 H H' : Hp} {T : List Ent} {s : SS} {σ0 σ : L2.St}
theorem Ok.newL {dw : List (D × V)} {p : Addr} (h : Ok K H0 H (es dw ++ T) s σ0 σ) (hp : H p = none) : Ok K H0 (upd H p (.lst (dw.map (·.2)))) ((some (.lst true (dw.map (·.1))), some (.ref p)) :: T) s σ0 σ :=
  h.lift fun q => Sep.lst (x := T ++ ents s σ) (by rw [← List.append_assoc]; exact q) hp
theorem Ok.newT {dw : List (D × V)} {p : Addr} (h : Ok K H0 H (es dw ++ T) s σ0 σ) (hp : H p = none) : Ok K H0 (upd H p (.tup (dw.map (·.2)))) ((some (.tup (dw.map (·.1))), some (.ref p)) :: T) s σ0 σ :=
  h.lift fun q => Sep.tup (x := T ++ ents s σ) (by rw [← List.append_assoc]; exact q) hp
theorem Ok.choose {dv dw : List (D × V)} (h : Ok K H0 H (es dv ++ T) s σ0 σ) (f : ∀ p ∈ dv, fz p.1 = true) (hs : ∀ p ∈ dw, p ∈ dv) : Ok K H0 H (es dw ++ T) s σ0 σ :=
  h.lift fun q => by
    rw [List.append_assoc]
    exact Sep.choose (x := T ++ ents s σ) (by rw [← List.append_assoc]; exact q) f hs
theorem Ok.dp (h : Ok K H0 H T s σ0 σ) {o : Op} {v : V} {d : D} (a : At T σ o v) (e : view s o = some d) (n : nd d = true) : Dp K H v (toPy d) := by
  obtain ⟨R, p⟩ := h.at a e
  exact (h.sep.perm p).dp n
theorem Ok.rep (h : Ok K H0 H T s σ0 σ) {o : Op} {v : V} {d : D} (a : At T σ o v) (e : view s o = some d) : ∃ Hs f, Same Hs H ∧ Rep K Hs H d v f := by
  obtain ⟨R, p⟩ := h.at a e
  exact (h.sep.perm p).rep
theorem Ok.items (h : Ok K H0 H T s σ0 σ) {o : Op} {v : V} {b : Bool} {xs : List D} (a : At T σ o v) (e : view s o = some (.lst b xs)) (f : fzs xs = true) :
    ∃ q vs, v = .ref q ∧ Rd H q (.lst vs) ∧ vs.length = xs.length ∧ Ok K H0 H (es (xs.zip vs) ++ T) s σ0 σ := by
  obtain ⟨R, p⟩ := h.at a e
  obtain ⟨q, vs, e1, e2, e3, e4⟩ := (h.sep.perm p).items f
  cases e1
  exact ⟨q, vs, rfl, e2, e3, h.lift fun _ => by
    rw [List.append_assoc]
    exact e4.perm (p.symm.append_left _)⟩
theorem Ok.itemsT (h : Ok K H0 H T s σ0 σ) {o : Op} {v : V} {xs : List D} (a : At T σ o v) (e : view s o = some (.tup xs)) (f : fzs xs = true) :
    ∃ q vs, v = .ref q ∧ SqT K H q vs ∧ vs.length = xs.length ∧ Ok K H0 H (es (xs.zip vs) ++ T) s σ0 σ := by
  obtain ⟨R, p⟩ := h.at a e
  obtain ⟨q, vs, e1, e2, e3, e4⟩ := (h.sep.perm p).itemsT f
  cases e1
  exact ⟨q, vs, rfl, e2, e3, h.lift fun _ => by
    rw [List.append_assoc]
    exact e4.perm (p.symm.append_left _)⟩
/-- a list is read -/
theorem Ok.list (h : Ok K H0 H T s σ0 σ) {o : Op} {v : V} {b : Bool} {xs : List D} (a : At T σ o v) (e : view s o = some (.lst b xs)) : ∃ q vs, v = .ref q ∧ Rd H q (.lst vs) ∧ vs.length = xs.length := by
  obtain ⟨R, p⟩ := h.at a e
  obtain ⟨q, vs, e1, e2, e3, e4⟩ := (h.sep.perm p).unlst
  cases e1
  exact ⟨q, vs, rfl, e2, e3⟩
theorem Ok.tuple (h : Ok K H0 H T s σ0 σ) {o : Op} {v : V} {xs : List D} (a : At T σ o v) (e : view s o = some (.tup xs)) : ∃ q vs, v = .ref q ∧ SqT K H q vs ∧ vs.length = xs.length := by
  obtain ⟨R, p⟩ := h.at a e
  obtain ⟨q, vs, e1, e2, e3, e4⟩ := (h.sep.perm p).untup
  cases e1
  exact ⟨q, vs, rfl, e2, e3⟩
theorem Ok.isInt (h : Ok K H0 H T s σ0 σ) {o : Op} {v : V} {i : Int} (a : At T σ o v) (e : view s o = some (.int i)) : v = .int i := by
  obtain ⟨_, _, _, r⟩ := h.rep a e
  exact r.1
theorem Ok.isBl (h : Ok K H0 H T s σ0 σ) {o : Op} {v : V} {i : Bool} (a : At T σ o v) (e : view s o = some (.bl i)) : v = .bl i := by
  obtain ⟨_, _, _, r⟩ := h.rep a e
  exact r.1
theorem Ok.isStr (h : Ok K H0 H T s σ0 σ) {o : Op} {v : V} {i : Str} (a : At T σ o v) (e : view s o = some (.str i)) : v = .str i := by
  obtain ⟨_, _, _, r⟩ := h.rep a e
  exact r.1
theorem Ok.isNon (h : Ok K H0 H T s σ0 σ) {o : Op} {v : V} (a : At T σ o v) (e : view s o = some .non) : v = .non := by
  obtain ⟨_, _, _, r⟩ := h.rep a e
  exact r.1
end
theorem mfz {xs : List D} {vs : List V} (h : vs.length = xs.length) : (xs.zip vs).map (·.1) = xs := List.map_fst_zip (by omega)
theorem msz {xs : List D} {vs : List V} (h : vs.length = xs.length) : (xs.zip vs).map (·.2) = vs := List.map_snd_zip (by omega)
theorem zip_fz {xs : List D} {vs : List V} (f : fzs xs = true) : ∀ p ∈ xs.zip vs, fz p.1 = true := fun p hp => fzs_mem f _ (List.of_mem_zip (a := p.1) (b := p.2) hp).1

/-- a rule for two values, and what it computes on trees -/
def BS (K : PySem.W.Frag) (r : R2) (f : D → D → Option D) : Prop :=
  ∀ {H0 H T s σ0 σ x y vx vy d e g Q}, Ok K H0 H T s σ0 σ → At T σ x vx → At T σ y vy → view s x = some d → view s y = some e → f d e = some g →
    (∀ H' v, Ok K H0 H' ((some g, some v) :: T) s σ0 σ → Q v H') → r vx vy H Q
theorem okd_nd : ∀ (n : Nat) (d : D), okd n d = true → nd d = true ∧ (toPy d).canLay0 = true ∧ (toPy d).depth ≤ n := by
  intro n d
  induction n using Nat.strongRecOn generalizing d with
  | _ n ih =>
    cases d with
    | non => intro _; exact ⟨rfl, rfl, Nat.zero_le _⟩
    | bl b => intro _; exact ⟨rfl, rfl, Nat.zero_le _⟩
    | int i => intro _; exact ⟨rfl, rfl, Nat.zero_le _⟩
    | str x =>
      intro h
      have h : PyData.strOk x = true := by cases n <;> simpa [okd] using h
      exact ⟨rfl, by simpa [toPy, PyData.canLay0] using h, Nat.zero_le _⟩
    | dic o ks xs => intro h; cases n <;> simp [okd] at h
    | ptr v => intro h; cases n <;> simp [okd] at h
    | tup xs =>
      intro h
      cases n with
      | zero => simp [okd] at h
      | succ n =>
        simp only [okd] at h
        have q : ∀ ds : List D, okds n ds = true → nds ds = true ∧ PyData.canLayAll0 (toPys ds) = true ∧ PyData.depthAll (toPys ds) ≤ n := by
          intro ds
          induction ds with
          | nil => intro _; exact ⟨rfl, rfl, Nat.zero_le _⟩
          | cons a t it =>
            intro h
            simp only [okds, Bool.and_eq_true] at h
            obtain ⟨a1, a2, a3⟩ := ih n (Nat.lt_succ_self n) a h.1
            obtain ⟨t1, t2, t3⟩ := it h.2
            refine ⟨by simp [nds, a1, t1], by simp [toPys, PyData.canLayAll0, a2, t2], ?_⟩
            simp only [toPys, PyData.depthAll]
            omega
        obtain ⟨q1, q2, q3⟩ := q xs h
        refine ⟨by simpa [nd] using q1, by simpa [toPy, PyData.canLay0] using q2, ?_⟩
        simp only [toPy, PyData.depth]
        omega
    | lst o xs =>
      intro h
      cases n with
      | zero => simp [okd] at h
      | succ n =>
        simp only [okd] at h
        have q : ∀ ds : List D, okds n ds = true → nds ds = true ∧ PyData.canLayAll0 (toPys ds) = true ∧ PyData.depthAll (toPys ds) ≤ n := by
          intro ds
          induction ds with
          | nil => intro _; exact ⟨rfl, rfl, Nat.zero_le _⟩
          | cons a t it =>
            intro h
            simp only [okds, Bool.and_eq_true] at h
            obtain ⟨a1, a2, a3⟩ := ih n (Nat.lt_succ_self n) a h.1
            obtain ⟨t1, t2, t3⟩ := it h.2
            refine ⟨by simp [nds, a1, t1], by simp [toPys, PyData.canLayAll0, a2, t2], ?_⟩
            simp only [toPys, PyData.depthAll]
            omega
        obtain ⟨q1, q2, q3⟩ := q xs h
        refine ⟨by simpa [nd] using q1, by simpa [toPy, PyData.canLay0] using q2, ?_⟩
        simp only [toPy, PyData.depth]
        omega
theorem okd_shaped {n : Nat} (hn : n ≤ 64) {d : D} (h : okd n d = true) : SeqAt.shaped (toPy d) = true := by
  obtain ⟨_, h2, h3⟩ := okd_nd n d h
  unfold SeqAt.shaped
  rw [h2, decide_eq_true (show (toPy d).depth ≤ 64 by omega)]
  rfl
theorem toPys_map (ds : List D) : toPys ds = ds.map toPy := by
  induction ds with
  | nil => rfl
  | cons a t ih => simp [toPys, ih]
section
variable {X : Cx}
/-- two ints -/
theorem bs_int {C : Int → Int → Prop} {g : Int → Int → V} {f : D → D → Option D}
    (hf : ∀ d e r, f d e = some r → ∃ i j, d = .int i ∧ e = .int j ∧ C i j ∧ ∀ Hs H, Rep X.K Hs H r (g i j) []) : BS X.K (rI C g) f := by
  intro H0 H T s σ0 σ x y vx vy d e r Q h ax ay ex ey fe q
  obtain ⟨i, j, rfl, rfl, c, rp⟩ := hf d e r fe
  exact ⟨i, j, h.isInt ax ex, h.isInt ay ey, c, q _ _ (h.scal fun Hs => rp Hs H)⟩
theorem bs_int0 {g : Int → Int → V} {f : D → D → Option D}
    (hf : ∀ d e r, f d e = some r → ∃ i j, d = .int i ∧ e = .int j ∧ ∀ Hs H, Rep X.K Hs H r (g i j) []) : BS X.K (rI0 g) f := by
  intro H0 H T s σ0 σ x y vx vy d e r Q h ax ay ex ey fe q
  obtain ⟨i, j, rfl, rfl, rp⟩ := hf d e r fe
  exact ⟨i, j, h.isInt ax ex, h.isInt ay ey, q _ _ (h.scal fun Hs => rp Hs H)⟩
theorem bs_sub : BS X.K (rI0 fun i j => .int (i - j)) (binop .sub) := bs_int0 fun d e r h => by
  unfold binop at h
  split at h <;> first | (cases h; done) | (injection h with h; subst h; exact ⟨_, _, rfl, rfl, fun _ _ => ⟨rfl, rfl⟩⟩) | (simp_all; done) | skip
theorem bs_div : BS X.K (rI CDivW fun i j => .int (i / j)) (binop .div) := bs_int fun d e r h => by
  cases d <;> cases e <;> simp only [binop] at h <;> try cases h
  split at h
  · rename_i c
    cases h
    exact ⟨_, _, rfl, rfl, c, fun _ _ => ⟨rfl, rfl⟩⟩
  · cases h
theorem bs_mod : BS X.K (rI (fun _ j => 0 < j) fun i j => .int (i % j)) (binop .mod) := bs_int fun d e r h => by
  cases d <;> cases e <;> simp only [binop] at h <;> try cases h
  split at h
  · rename_i c
    cases h
    exact ⟨_, _, rfl, rfl, c, fun _ _ => ⟨rfl, rfl⟩⟩
  · cases h
theorem bs_pow : BS X.K (rI CPow fun i j => .int (i ^ j.toNat)) (binop .pow) := bs_int fun d e r h => by
  cases d <;> cases e <;> simp only [binop] at h <;> try cases h
  split at h
  · rename_i c
    cases h
    exact ⟨_, _, rfl, rfl, c, fun _ _ => ⟨rfl, rfl⟩⟩
  · cases h
theorem bs_shl : BS X.K (rI CPow fun i j => .int (i * 2 ^ j.toNat)) (binop .shl) := bs_int fun d e r h => by
  cases d <;> cases e <;> simp only [binop] at h <;> try cases h
  split at h
  · rename_i c
    cases h
    exact ⟨_, _, rfl, rfl, c, fun _ _ => ⟨rfl, rfl⟩⟩
  · cases h
theorem bs_lt : BS X.K (rI0 fun i j => .bl (decide (i < j))) (cmpop .lt) := bs_int0 fun d e r h => by
  cases d <;> cases e <;> simp only [cmpop] at h <;> cases h
  exact ⟨_, _, rfl, rfl, fun _ _ => ⟨rfl, rfl⟩⟩
theorem bs_le : BS X.K (rI0 fun i j => .bl (decide (i ≤ j))) (cmpop .le) := bs_int0 fun d e r h => by
  cases d <;> cases e <;> simp only [cmpop] at h <;> cases h
  exact ⟨_, _, rfl, rfl, fun _ _ => ⟨rfl, rfl⟩⟩
theorem bs_gt : BS X.K (rI0 fun i j => .bl (decide (j < i))) (cmpop .gt) := bs_int0 fun d e r h => by
  cases d <;> cases e <;> simp only [cmpop] at h <;> cases h
  exact ⟨_, _, rfl, rfl, fun _ _ => ⟨rfl, rfl⟩⟩
theorem bs_ge : BS X.K (rI0 fun i j => .bl (decide (j ≤ i))) (cmpop .ge) := bs_int0 fun d e r h => by
  cases d <;> cases e <;> simp only [cmpop] at h <;> cases h
  exact ⟨_, _, rfl, rfl, fun _ _ => ⟨rfl, rfl⟩⟩
theorem bs_eq : BS X.K (rEqD X.K) (cmpop .eq) := by
  intro H0 H T s σ0 σ x y vx vy d e r Q h ax ay ex ey fe q
  simp only [cmpop] at fe
  split at fe
  · rename_i c
    cases fe
    rw [Bool.and_eq_true] at c
    obtain ⟨c1, c2⟩ := c
    exact ⟨toPy d, toPy e, h.dp ax ex (okd_nd _ _ c1).1, h.dp ay ey (okd_nd _ _ c2).1, okd_shaped (by omega) c1, okd_shaped (by omega) c2, q _ _ h.bl⟩
  · cases fe
theorem bs_ne : BS X.K (rNeD X.K) (cmpop .ne) := by
  intro H0 H T s σ0 σ x y vx vy d e r Q h ax ay ex ey fe q
  simp only [cmpop] at fe
  split at fe
  · rename_i c
    cases fe
    rw [Bool.and_eq_true] at c
    obtain ⟨c1, c2⟩ := c
    exact ⟨toPy d, toPy e, h.dp ax ex (okd_nd _ _ c1).1, h.dp ay ey (okd_nd _ _ c2).1, okd_shaped (by omega) c1, okd_shaped (by omega) c2, q _ _ h.bl⟩
  · cases fe
theorem isN_iff {K : PySem.W.Frag} {Hs H : Hp} {d : D} {v : V} {f : List Addr} (r : Rep K Hs H d v f) (np : isPtr d = false) : decide (v = .non) = isNonD d := by
  cases d with
  | ptr _ => cases np
  | non => obtain ⟨rfl, _⟩ := r; rfl
  | bl _ => obtain ⟨rfl, _⟩ := r; rfl
  | int _ => obtain ⟨rfl, _⟩ := r; rfl
  | str _ => obtain ⟨rfl, _⟩ := r; rfl
  | tup _ => obtain ⟨_, _, rfl, _⟩ := r; rfl
  | lst b _ =>
    cases b
    · obtain ⟨_, _, rfl, _⟩ := r; rfl
    · obtain ⟨_, _, _, rfl, _⟩ := r; rfl
  | dic b _ _ =>
    cases b
    · obtain ⟨_, _, rfl, _⟩ := r; rfl
    · obtain ⟨_, _, _, rfl, _⟩ := r; rfl
theorem bs_isN : BS X.K (fun x y H Q => y = .non ∧ Q (.bl (decide (x = .non))) H) (cmpop .isN) := by
  intro H0 H T s σ0 σ x y vx vy d e r Q h ax ay ex ey fe q
  cases e <;> simp only [cmpop] at fe <;> try (cases fe; done)
  split at fe
  · cases fe
  rename_i np
  cases fe
  obtain ⟨_, _, _, rp⟩ := h.rep ax ex
  refine ⟨h.isNon ay ey, ?_⟩
  rw [isN_iff rp (by simpa using np)]
  exact q _ _ h.bl
theorem bs_isnN : BS X.K (fun x y H Q => y = .non ∧ Q (.bl (!decide (x = .non))) H) (cmpop .isnN) := by
  intro H0 H T s σ0 σ x y vx vy d e r Q h ax ay ex ey fe q
  cases e <;> simp only [cmpop] at fe <;> try (cases fe; done)
  split at fe
  · cases fe
  rename_i np
  cases fe
  obtain ⟨_, _, _, rp⟩ := h.rep ax ex
  refine ⟨h.isNon ay ey, ?_⟩
  rw [isN_iff rp (by simpa using np)]
  exact q _ _ h.bl
/-- x in a list, a tuple, a dict -/
def rInA (K : PySem.W.Frag) (neg : Bool) : R2 := fun x y H Q => (∃ d ds, Dp K H x d ∧ (Dp K H y (.list ds) ∨ Dp K H y (.tuple ds)) ∧ SeqAt.shaped d = true ∧ SeqAt.shaped (.list ds) = true ∧ Q (.bl (if neg then !ds.any fun z => PyData.eqv z d else ds.any fun z => PyData.eqv z d)) H) ∨
  (∃ a o, y = .ref a ∧ DGet H a x o ∧ Q (.bl (if neg then !o.isSome else o.isSome)) H)
theorem room_inS {A : Around} {d : PyData} {n : Nat} (h : SeqAt.shaped d = true) (hu : A.units + 65 < cLine) : A.units + 1 + min n d.depth < cLine := by
  have h1 := SeqAt.depth_of_shaped h
  have h2 : min n d.depth ≤ d.depth := Nat.min_le_right _ _
  omega
theorem op_inA {neg : Bool} {op : CmpOp} (ho : op = if neg then .NotIn else .In) (hu : X.A.units + 65 < cLine) : OpR X (compareOp op) (rInA X.K neg) := by
  intro pins s σ H x y v u Q I rx ry h
  rcases h with ⟨d, ds, hd, he, sd, se, q⟩ | ⟨a, o, rfl, g, q⟩
  · obtain ⟨as, r1⟩ := Dp.reads I d x v hd rx
    have hxs : PyData.canLayAll0 ds = true := SeqAt.canLay_of_shaped se
    rcases he with he | he
    · obtain ⟨bs, r2⟩ := Dp.reads I (.list ds) y u he ry
      cases neg
      · subst ho
        exact SeqAt.in_list_reads r2 r1 hxs (SeqAt.canLay_of_shaped sd) (room_inS sd hu) ⟨.bl _, H, I, rfl, q⟩
      · subst ho
        exact SeqAt.notIn_list_reads r2 r1 hxs (SeqAt.canLay_of_shaped sd) (room_inS sd hu) ⟨.bl _, H, I, rfl, q⟩
    · obtain ⟨bs, r2⟩ := Dp.reads I (.tuple ds) y u he ry
      cases neg
      · subst ho
        exact SeqAt.in_tuple_reads r2 r1 hxs (SeqAt.canLay_of_shaped sd) (room_inS sd hu) ⟨.bl _, H, I, rfl, q⟩
      · subst ho
        exact SeqAt.notIn_tuple_reads r2 r1 hxs (SeqAt.canLay_of_shaped sd) (room_inS sd hu) ⟨.bl _, H, I, rfl, q⟩
  · cases ry
    cases neg
    · subst ho
      exact d_in (by omega) I g rx fun s' I' => ⟨.bl _, H, I', rfl, q⟩
    · subst ho
      exact d_notIn (by omega) I g rx fun s' I' => ⟨.bl _, H, I', rfl, q⟩
theorem getK_val : ∀ {ks : List Key} {vs : List V} {xs : List D} {k : Key}, vs.length = xs.length → ks.length = vs.length → (valV (ks.zip vs) k).isSome = (getK ks xs k).isSome
  | [], vs, xs, k, _, _ => by simp [valV, getK]
  | a :: ks, [], xs, k, _, h => by simp at h
  | a :: ks, v :: vs, [], k, h, _ => by simp at h
  | a :: ks, v :: vs, x :: xs, k, h1, h2 => by
    have ih := getK_val (ks := ks) (vs := vs) (xs := xs) (k := k) (by simpa using h1) (by simpa using h2)
    by_cases e : a = k
    · simp [valV, getK, e]
    · simp only [List.zip_cons_cons, getK, if_neg e]
      unfold valV at ih ⊢
      rw [List.find?_cons_of_neg (by simpa using e)]
      exact ih
theorem getK_at : ∀ {ks : List Key} {vs : List V} {xs : List D} {k : Key} {d : D}, vs.length = xs.length → ks.length = vs.length → getK ks xs k = some d → ∃ v, valV (ks.zip vs) k = some v ∧ (d, v) ∈ xs.zip vs
  | [], vs, xs, k, d, _, _, h => by simp [getK] at h
  | a :: ks, [], xs, k, d, _, h, _ => by simp at h
  | a :: ks, v :: vs, [], k, d, h, _, _ => by simp at h
  | a :: ks, v :: vs, x :: xs, k, d, h1, h2, h => by
    by_cases e : a = k
    · simp only [getK, if_pos e] at h
      cases h
      exact ⟨v, by simp [valV, e], by simp⟩
    · simp only [getK, if_neg e] at h
      obtain ⟨u, e1, e2⟩ := getK_at (ks := ks) (vs := vs) (xs := xs) (by simpa using h1) (by simpa using h2) h
      refine ⟨u, ?_, by simp [e2]⟩
      unfold valV at e1 ⊢
      rw [List.zip_cons_cons, List.find?_cons_of_neg (by simpa using e)]
      exact e1
theorem keyV {K : PySem.W.Frag} {Hs H : Hp} {d : D} {v : V} {f : List Addr} {k : Key} (r : Rep K Hs H d v f) (e : keyOf d = some k) : v = kV k := by
  cases d <;> simp only [keyOf] at e <;> cases e <;> (obtain ⟨rfl, _⟩ := r; rfl)
/-- a dict is read -/
theorem Ok.dict {K : PySem.W.Frag} {H0 H : Hp} {T : List Ent} {s : SS} {σ0 σ : L2.St} (h : Ok K H0 H T s σ0 σ) {o : Op} {v : V} {b : Bool} {ks : List Key} {xs : List D} (a : At T σ o v) (e : view s o = some (.dic b ks xs)) :
    ∃ q vs, v = .ref q ∧ H q = some (.dK (ks.zip vs)) ∧ ks.length = vs.length ∧ vs.length = xs.length := by
  obtain ⟨Hs, f, sm, r⟩ := h.rep a e
  cases b with
  | true =>
    obtain ⟨q, vs, f2, rfl, rfl, e1, e2, e3⟩ := r
    exact ⟨q, vs, rfl, e1, e2.1, e3.len⟩
  | false =>
    obtain ⟨q, vs, rfl, rfl, e1, e2, e3⟩ := r
    exact ⟨q, vs, rfl, sm _ _ e1, e2.1, e3.len⟩
theorem any_eqv (x : D) (xs : List D) : ((toPys xs).any fun z => PyData.eqv z (toPy x)) = xs.any fun z => eqD z x := by
  rw [toPys_map, List.any_map]
  rfl
theorem bs_in (neg : Bool) : BS X.K (rInA X.K neg) (cmpop (if neg then .nin else .isin)) := by
  intro H0 H T s σ0 σ x y vx vy d e r Q h ax ay ex ey fe q
  have seq : ∀ xs : List D, mem? neg d xs = some r → (nds xs = true → Dp X.K H vy (.list (toPys xs)) ∨ Dp X.K H vy (.tuple (toPys xs))) → rInA X.K neg vx vy H Q := by
    intro xs fe hd
    unfold mem? at fe
    split at fe
    · rename_i c
      cases fe
      rw [Bool.and_eq_true] at c
      obtain ⟨c1, c2⟩ := c
      have cl : okd 60 (.lst true xs) = true := by simpa [okd] using c2
      have z := okd_shaped (by omega) cl
      have nn := (okd_nd _ _ cl).1
      refine .inl ⟨toPy d, toPys xs, h.dp ax ex (okd_nd _ _ c1).1, hd (by simpa [nd] using nn), okd_shaped (by omega) c1, by simpa [toPy] using z, ?_⟩
      rw [any_eqv]
      exact q _ _ h.bl
    · cases fe
  cases e with
  | lst b xs =>
    have fe : mem? neg d xs = some r := by
      cases neg <;> simpa [cmpop] using fe
    exact seq xs fe fun n => .inl (by simpa [toPy] using h.dp ay ey (by simpa [nd] using n))
  | tup xs =>
    have fe : mem? neg d xs = some r := by
      cases neg <;> simpa [cmpop] using fe
    exact seq xs fe fun n => .inr (by simpa [toPy] using h.dp ay ey (by simpa [nd] using n))
  | dic b ks xs =>
    obtain ⟨k, ek, er⟩ : ∃ k, keyOf d = some k ∧ r = .bl (if neg then !(getK ks xs k).isSome else (getK ks xs k).isSome) := by
      cases neg
      · simp only [cmpop] at fe
        cases e : keyOf d with
        | none => simp [e, cmpop] at fe
        | some k => simp [e, cmpop] at fe; exact ⟨k, rfl, by simp [← fe]⟩
      · simp only [cmpop] at fe
        cases e : keyOf d with
        | none => simp [e, cmpop] at fe
        | some k => simp [e, cmpop] at fe; exact ⟨k, rfl, by simp [← fe]⟩
    obtain ⟨qa, vs, rfl, e1, e2, e3⟩ := h.dict ay ey
    obtain ⟨_, _, _, rp⟩ := h.rep ax ex
    refine .inr ⟨qa, valV (ks.zip vs) k, rfl, ?_, ?_⟩
    · rw [keyV rp ek]
      exact DGet.k e1
    · rw [getK_val e3 e2]
      subst er
      exact q _ _ h.bl
  | non => cases neg <;> simp [cmpop] at fe
  | bl _ => cases neg <;> simp [cmpop] at fe
  | int _ => cases neg <;> simp [cmpop] at fe
  | str _ => cases neg <;> simp [cmpop] at fe
  | ptr _ => cases neg <;> simp [cmpop] at fe
/-- + : ints, texts, lists, tuples -/
def rCatL : R2 := fun x y H Q => ∃ l b xs zs, x = .ref l ∧ y = .ref b ∧ Rd H l (.lst xs) ∧ Rd H b (.lst zs) ∧ xs.length + zs.length ≤ sizeLine ∧ ∀ p, H p = none → Q (.ref p) (upd H p (.lst (xs ++ zs)))
theorem rd_lst {pins : List (Addr × Obj)} {σ : L2.St} {H : Hp} {s : Shared} {l : Addr} {xs : List V} (I : Inv X pins σ H s) (r : Rd H l (.lst xs)) :
    xs.length ≤ sizeLine ∧ ∃ (its : List Value) (n : Nat), Vals xs its ∧ xs.length = its.length ∧ s.heap.get? l = some { cls := .type "list", data := .seq its.toArray n } := by
  obtain ⟨z, its, n, r, e⟩ := r.ok I.hok
  exact ⟨z, its, n, r, r.length, e⟩
theorem op_catL : OpR X (binaryOp .Add) rCatL := by
  intro pins s σ H x y v u Q I rx ry h
  obtain ⟨l, b, xs, zs, rfl, rfl, hH, hB, hz, q⟩ := h
  cases rx
  cases ry
  obtain ⟨z, its, n, r, hl, e⟩ := rd_lst I hH
  obtain ⟨z2, its2, n2, r2, hl2, e2⟩ := rd_lst I hB
  refine PySem.P.add_list e e2 ?_ (by rw [List.size_toArray, List.size_toArray]; omega)
  have ea : its.toArray ++ its2.toArray = (its ++ its2).toArray := by simp
  rw [ea]
  exact ⟨.ref _, _, I.lnew (t' := s.toks) (r.append r2) (by rw [List.length_append]; omega), rfl, q _ I.fresh⟩
def rAddA (K : PySem.W.Frag) : R2 := fun x y H Q => ((rI0 fun i j => .int (i + j)) x y H Q ∨ (∃ i j, x = .str i ∧ y = .str j ∧ i.length + j.length ≤ sizeLine ∧ Q (.str (i ++ j)) H)) ∨ (rCatL x y H Q ∨ rCatA K x y H Q)
theorem op_addA : OpR X (binaryOp .Add) (rAddA X.K) := OpR.or (OpR.or op_add op_add_str) (OpR.or op_catL op_catA)
theorem bs_add : BS X.K (rAddA X.K) (binop .add) := by
  intro H0 H T s σ0 σ x y vx vy d e r Q h ax ay ex ey fe q
  cases d with
  | int i =>
    cases e <;> simp only [binop] at fe <;> cases fe
    exact .inl (.inl ⟨_, _, h.isInt ax ex, h.isInt ay ey, q _ _ h.int⟩)
  | str z =>
    cases e <;> simp only [binop] at fe <;> try cases fe
    split at fe
    · rename_i c
      cases fe
      exact .inl (.inr ⟨_, _, h.isStr ax ex, h.isStr ay ey, by rw [← LIM_eq]; exact c, q _ _ h.str⟩)
    · cases fe
  | lst b xs =>
    cases e <;> simp only [binop] at fe <;> try cases fe
    rename_i b2 ys
    split at fe
    · rename_i c
      cases fe
      simp only [Bool.and_eq_true, decide_eq_true_eq] at c
      obtain ⟨⟨c1, c2⟩, c3⟩ := c
      obtain ⟨q1, vs, rfl, r1, l1, h1⟩ := h.items ax ex c1
      obtain ⟨q2, ws, rfl, r2, l2, _⟩ := h.items ay ey c2
      have ay1 : At (es (xs.zip vs) ++ T) σ y (.ref q2) := by
        cases y with
        | vl d => exact List.mem_append_right _ ay
        | pl i => exact ay
      obtain ⟨q3, ws', e3, r3, l3, h2⟩ := h1.items ay1 ey c2
      cases e3
      have ew : ws' = ws := by
        rcases r2 with r2 | ⟨o, r2⟩ <;> rcases r3 with r3 | ⟨o', r3⟩ <;> rw [r2] at r3 <;> cases r3 <;> rfl
      subst ew
      refine .inr (.inl ⟨q1, q2, vs, ws', rfl, rfl, r1, r2, by rw [← LIM_eq, l1, l2]; exact c3, fun p hp => q _ _ ?_⟩)
      have h3 : Ok X.K H0 H (es (ys.zip ws' ++ xs.zip vs) ++ T) s σ0 σ := by
        rw [es_append, List.append_assoc]
        exact h2
      have h4 := (h3.choose (dw := xs.zip vs ++ ys.zip ws') (fun p hp => by
        rcases List.mem_append.mp hp with hp | hp
        · exact zip_fz c2 p hp
        · exact zip_fz c1 p hp) (fun p hp => by
        rcases List.mem_append.mp hp with hp | hp
        · exact List.mem_append_right _ hp
        · exact List.mem_append_left _ hp)).newL hp
      rw [List.map_append, List.map_append, mfz l1, mfz l2, msz l1, msz l2] at h4
      exact h4
    · cases fe
  | tup xs =>
    cases e <;> simp only [binop] at fe <;> try cases fe
    rename_i ys
    split at fe
    · rename_i c
      cases fe
      simp only [Bool.and_eq_true, decide_eq_true_eq] at c
      obtain ⟨⟨c1, c2⟩, c3⟩ := c
      obtain ⟨q1, vs, rfl, r1, l1, h1⟩ := h.itemsT ax ex c1
      have ay1 : At (es (xs.zip vs) ++ T) σ y vy := by
        cases y with
        | vl d => exact List.mem_append_right _ ay
        | pl i => exact ay
      obtain ⟨q3, ws, rfl, r3, l2, h2⟩ := h1.itemsT ay1 ey c2
      refine .inr (.inr ⟨q1, q3, vs, ws, rfl, rfl, r1, r3, by rw [← LIM_eq, l1, l2]; exact c3, fun e0 => ?_, fun _ e0 => ?_, fun _ _ p hp => q _ _ ?_⟩)
      · subst e0
        have : xs = [] := by
          cases xs with
          | nil => rfl
          | cons a t => simp at l1
        subst this
        obtain ⟨R, p⟩ := h.at ay ey
        exact q _ _ (h.lift fun z => ((z.perm p).copy (by simpa [fz] using c2)).perm (p.symm.cons _))
      · subst e0
        have : ys = [] := by
          cases ys with
          | nil => rfl
          | cons a t => simp at l2
        subst this
        rw [List.append_nil] at q
        obtain ⟨R, p⟩ := h.at ax ex
        exact q _ _ (h.lift fun z => ((z.perm p).copy (by simpa [fz] using c1)).perm (p.symm.cons _))
      · have h3 : Ok X.K H0 H (es (ys.zip ws ++ xs.zip vs) ++ T) s σ0 σ := by
          rw [es_append, List.append_assoc]
          exact h2
        have h4 := (h3.choose (dw := xs.zip vs ++ ys.zip ws) (fun p hp => by
          rcases List.mem_append.mp hp with hp | hp
          · exact zip_fz c2 p hp
          · exact zip_fz c1 p hp) (fun p hp => by
          rcases List.mem_append.mp hp with hp | hp
          · exact List.mem_append_right _ hp
          · exact List.mem_append_left _ hp)).newT hp
        rw [List.map_append, List.map_append, mfz l1, mfz l2, msz l1, msz l2] at h4
        exact h4
    · cases fe
  | non => cases e <;> simp [binop] at fe
  | bl _ => cases e <;> simp [binop] at fe
  | dic _ _ _ => cases e <;> simp [binop] at fe
  | ptr _ => cases e <;> simp [binop] at fe
end
end VE

namespace VE
open PySem L2 PyProof.Rows
section
variable {X : Cx} {W : WX} {a b c e : Expr} {pos : Pos} {ra rb rc : SS → Option (O D)} {oa ob : SS → Option (O Op)}
theorem At.more {T T' : List Ent} {σ : L2.St} {o : Op} {v : V} (h : At T σ o v) (k : ∀ x ∈ T, x ∈ T') : At T' σ o v := by
  cases o with
  | vl d => exact k _ h
  | pl i => exact h
theorem At.hd {T : List Ent} {σ : L2.St} {d : D} {v : V} : At ((some d, some v) :: T) σ (.vl d) v := List.mem_cons_self
/-- a name, kept: what it owns is locked -/
theorem pE_var {i : Nat} {r : SS → Option (O D)} (h : PE X e (tVar i)) (hr : ∀ s, r s = (match gt s i with | some d => if fz d then some (.ok d s) else some (.ok (frz d) (pt s i (some (frz d)))) | none => none)) : PE X e (tE X.K X.mg W r) := by
  refine peImp h fun σ H Q q => ?_
  obtain ⟨H0, T, s, σ0, o, k, er, p⟩ := q
  rw [hr] at er
  cases eg : gt s i with
  | none => rw [eg] at er; cases er
  | some d =>
    rw [eg] at er
    have er : (if fz d then some (O.ok d s) else some (.ok (frz d) (pt s i (some (frz d))))) = some o := er
    obtain ⟨v, hv, en⟩ := k.gt eg
    refine ⟨v, hv, ?_⟩
    split at er
    · rename_i f
      cases er
      refine p H v (k.lift fun z => ?_)
      have z1 := ((Sep.focus en).mp z).copy f
      have pm : (T ++ ents s σ).Perm ((some d, some v) :: (T ++ (ents s σ).eraseIdx i)) := ((perm_erase en).append_left T).trans List.perm_middle
      exact z1.perm (pm.symm.cons _)
    · cases er
      refine p H v (k.change (d' := some (frz d)) (T' := (some (frz d), some v) :: T) eg fun u R hu z => ?_)
      rw [hu] at hv
      cases hv
      have z1 := z.freeze.copy (fz_frz d)
      exact z1.perm (.refl _)
/-- a name, as a place -/
theorem pO_var {i : Nat} {r : SS → Option (O Op)} (h : PE X e (tVar i)) (hr : ∀ s, r s = (match gt s i with | some _ => some (.ok (.pl i) s) | none => none)) : PE X e (tO X.K X.mg W r) := by
  refine peImp h fun σ H Q q => ?_
  obtain ⟨H0, T, s, σ0, o, k, er, p⟩ := q
  rw [hr] at er
  cases eg : gt s i with
  | none => rw [eg] at er; cases er
  | some d =>
    rw [eg] at er
    cases er
    obtain ⟨v, hv, en⟩ := k.gt eg
    exact ⟨v, hv, p H v hv (k.lift Sep.non)⟩
/-- any other expression, as an operand -/
theorem pO_val (h : PE X e (tE X.K X.mg W ra)) : PE X e (tO X.K X.mg W fun s => bnd (ra s) fun d s => some (.ok (.vl d) s)) := by
  refine peImp h fun σ H Q q => ?_
  obtain ⟨H0, T, s, σ0, o, k, er, p⟩ := q
  have er : bnd (ra s) (fun d s => some (O.ok (Op.vl d) s)) = some o := er
  cases ea : ra s with
  | none => rw [ea] at er; cases er
  | some r =>
    rw [ea] at er
    cases r with
    | ok d s1 =>
      cases er
      exact ⟨H0, T, s, σ0, _, k, ea, fun H1 v k1 => p H1 v At.hd k1⟩
    | ex c s1 =>
      cases er
      exact ⟨H0, T, s, σ0, _, k, ea, p⟩
theorem pE_lit {d : D} {v : V} (h : PE X e (tC v)) (r : ∀ Hs H, Rep X.K Hs H d v []) : PE X e (tE X.K X.mg W fun s => some (.ok d s)) := by
  refine peImp h fun σ H Q q => ?_
  obtain ⟨H0, T, s, σ0, o, k, er, p⟩ := q
  cases er
  exact p H v (k.scal fun Hs => r Hs H)
theorem pE_neg (h : PE X a (tE X.K X.mg W ra)) : PE X (.UnaryOp .USub a pos) (tE X.K X.mg W fun s => bnd (ra s) fun d s => match d with | .int i => some (.ok (.int (-i)) s) | _ => none) := by
  refine peImp (pe_un un_neg h) fun σ H Q q => ?_
  obtain ⟨H0, T, s, σ0, o, k, er, p⟩ := q
  refine tE_bnd k er p fun d s1 e1 f H1 v k1 => ?_
  cases d <;> try (cases f; done)
  cases f
  exact ⟨_, k1.isInt At.hd rfl, p _ _ k1.int.skip⟩
theorem tT_of {r : SS → Option (O D)} {t : TT} {σ : L2.St} {H : Hp} {Q : Bool → Hp → Prop} (h : tT X.K X.mg W r σ H Q) : tE X.K X.mg W r σ H fun v H' => ∃ b, v = .bl b ∧ Q b H' := h
theorem pT_inv (h : PT X a (tT X.K X.mg W ra)) : PT X (.UnaryOp .Not a pos) (tT X.K X.mg W fun s => bnd (ra s) fun d s => match d with | .bl b => some (.ok (.bl (!b)) s) | _ => none) := by
  refine ptImp (pt_not h) fun σ H Q q => ?_
  obtain ⟨H0, T, s, σ0, o, k, er, p⟩ := q
  show tE X.K X.mg W ra σ H fun v H' => ∃ b, v = .bl b ∧ Q (!b) H'
  refine tE_bnd (Q := fun v H' => ∃ b, v = .bl b ∧ Q b H') k er p fun d s1 e1 f H1 v k1 => ?_
  cases d <;> try (cases f; done)
  rename_i bb
  cases f
  have ev := k1.isBl At.hd rfl
  subst ev
  obtain ⟨b', e2, q2⟩ := p H1 (.bl (!bb)) k1.bl.skip
  cases e2
  exact ⟨bb, rfl, q2⟩
theorem pE_inv (h : PE X a (tE X.K X.mg W ra)) (h2 : PT X a (tT X.K X.mg W ra)) : PE X (.UnaryOp .Not a pos) (tE X.K X.mg W fun s => bnd (ra s) fun d s => match d with | .bl b => some (.ok (.bl (!b)) s) | _ => none) := by
  refine peImp (pe_not h) fun σ H Q q => ?_
  obtain ⟨H0, T, s, σ0, o, k, er, p⟩ := q
  refine tE_bnd k er p fun d s1 e1 f H1 v k1 => ?_
  cases d <;> try (cases f; done)
  cases f
  exact ⟨_, k1.isBl At.hd rfl, p _ _ k1.bl.skip⟩
theorem PostE.more1 {K : PySem.W.Frag} {mg : Str → Option Value} {H0 : Hp} {T : List Ent} {x : Ent} {σ0 σ : L2.St} {Q : VK} : ∀ {o : O D}, PostE K mg W H0 T σ0 σ Q o → PostE K mg W H0 (x :: T) σ0 σ Q o
  | .ok _ _, p => fun H' v k => p H' v k.skip
  | .ex _ _, p => fun H' C hc k => p H' C hc k.tail
/-- two operands and a rule -/
theorem tBin {r : R2} {f : D → D → Option D} {σ : L2.St} {H : Hp} {Q : VK} (bs : BS X.K r f)
    (q : tE X.K X.mg W (fun s => bnd (oa s) fun x s => bnd (ob s) fun y s => (match view s x, view s y with | some d, some e => up (f d e) s | _, _ => none)) σ H Q) : tOp r (tO X.K X.mg W oa) (tO X.K X.mg W ob) σ H Q := by
  obtain ⟨H0, T, s, σ0, o, k, er, p⟩ := q
  refine tO_bnd k er p fun x s1 e1 f1 H1 v1 a1 k1 => ?_
  refine tO_bnd k1 f1 (p.more1) fun y s2 e2 f2 H2 v2 a2 k2 => ?_
  have f2 : (match view s2 x, view s2 y with | some d, some e => up (f d e) s2 | _, _ => none) = some o := f2
  cases ex : view s2 x with
  | none => rw [ex] at f2; cases f2
  | some d =>
    cases ey : view s2 y with
    | none => rw [ex, ey] at f2; cases f2
    | some e =>
      rw [ex, ey] at f2
      have f2 : up (f d e) s2 = some o := f2
      cases ef : f d e with
      | none => rw [ef] at f2; cases f2
      | some g =>
        rw [ef] at f2
        cases f2
        exact bs k2 (a1.more fun z hz => List.mem_cons_of_mem _ hz) a2 ex ey ef fun H' v kk => p H' v kk.skip2
theorem pE_bin {op : Operator} {r : R2} {f : D → D → Option D} (ho : OpR X (binaryOp op) r) (bs : BS X.K r f) (h1 : PE X a (tO X.K X.mg W oa)) (h2 : PE X b (tO X.K X.mg W ob)) :
    PE X (.BinOp a op b pos) (tE X.K X.mg W fun s => bnd (oa s) fun x s => bnd (ob s) fun y s => (match view s x, view s y with | some d, some e => up (f d e) s | _, _ => none)) :=
  peImp (pe_op ho h1 h2) fun σ H Q q => tBin bs q
theorem pE_cmp {op : CmpOp} {r : R2} {f : D → D → Option D} (ho : OpR X (compareOp op) r) (bs : BS X.K r f) (h1 : PE X a (tO X.K X.mg W oa)) (h2 : PE X b (tO X.K X.mg W ob)) (hm : behindInMarks op b = false) :
    PE X (.Compare a [op] [b] pos) (tE X.K X.mg W fun s => bnd (oa s) fun x s => bnd (ob s) fun y s => (match view s x, view s y with | some d, some e => up (f d e) s | _, _ => none)) :=
  peImp (pe_cmpR ho h1 h2 hm) fun σ H Q q => tBin bs q
theorem pT_cmp {op : CmpOp} {r : R2} {f : D → D → Option D} (ho : OpR X (compareOp op) r) (bs : BS X.K r f) (h1 : PE X a (tO X.K X.mg W oa)) (h2 : PE X b (tO X.K X.mg W ob)) (hm : behindInMarks op b = false) :
    PT X (.Compare a [op] [b] pos) (tT X.K X.mg W fun s => bnd (oa s) fun x s => bnd (ob s) fun y s => (match view s x, view s y with | some d, some e => up (f d e) s | _, _ => none)) :=
  ptImp (pt_cmpR ho h1 h2 hm) fun σ H Q q => tBin bs q
/-- a truth as a test, where nothing else is said of the form -/
theorem pT_val (h : PE X e (tE X.K X.mg W ra)) (he : ∀ whole, isTrue e X.env whole = (do let v ← whole; standAt e.pos; holding [v] (truthy v))) : PT X e (tT X.K X.mg W ra) := ptImp (pt_val h he) fun σ H Q q => q
/-- and, or -/
def evAnd (ra rb : SS → Option (O D)) : SS → Option (O D) := fun s => bnd (ra s) fun d s => (match d with | .bl true => rb s | .bl false => some (.ok (.bl false) s) | _ => none)
def evOr (ra rb : SS → Option (O D)) : SS → Option (O D) := fun s => bnd (ra s) fun d s => (match d with | .bl true => some (.ok (.bl true) s) | .bl false => rb s | _ => none)
variable {rest : List Expr}
theorem tE_go {K : PySem.W.Frag} {mg : Str → Option Value} {r : SS → Option (O D)} {H0 H1 : Hp} {T : List Ent} {x : Ent} {s : SS} {σ0 σ : L2.St} {o : O D} {Q : VK} (k : Ok K H0 H1 (x :: T) s σ0 σ) (e : r s = some o) (p : PostE K mg W H0 T σ0 σ Q o) : tE K mg W r σ H1 Q := ⟨H0, T, s, σ0, o, k.tail, e, p⟩
theorem pE_and (h1 : PE X a (tE X.K X.mg W ra)) (h2 : PE X (.BoolOp .And (b :: rest) pos) (tE X.K X.mg W rb)) : PE X (.BoolOp .And (a :: b :: rest) pos) (tE X.K X.mg W (evAnd ra rb)) := by
  refine peImp (L2.pe_and h1 h2) fun σ H Q q => ?_
  obtain ⟨H0, T, s, σ0, o, k, er, p⟩ := q
  refine tE_bnd k er p fun d s1 e1 f H1 v k1 => ?_
  cases d <;> try (cases f; done)
  rename_i c
  refine ⟨c, k1.isBl At.hd rfl, ?_⟩
  cases c with
  | true => exact iteT (tE_go k1 f p)
  | false =>
    cases f
    exact iteF (p _ _ k1.bl.skip)
theorem pE_or (h1 : PE X a (tE X.K X.mg W ra)) (h2 : PE X (.BoolOp .Or (b :: rest) pos) (tE X.K X.mg W rb)) : PE X (.BoolOp .Or (a :: b :: rest) pos) (tE X.K X.mg W (evOr ra rb)) := by
  refine peImp (L2.pe_or h1 h2) fun σ H Q q => ?_
  obtain ⟨H0, T, s, σ0, o, k, er, p⟩ := q
  refine tE_bnd k er p fun d s1 e1 f H1 v k1 => ?_
  cases d <;> try (cases f; done)
  rename_i c
  refine ⟨c, k1.isBl At.hd rfl, ?_⟩
  cases c with
  | false => exact iteF (tE_go k1 f p)
  | true =>
    cases f
    exact iteT (p _ _ k1.bl.skip)
theorem pW_and (h1 : PT X a (tT X.K X.mg W ra)) (h2 : PW X (.BoolOp .And (b :: rest) pos) (tT X.K X.mg W rb)) : PW X (.BoolOp .And (a :: b :: rest) pos) (tT X.K X.mg W (evAnd ra rb)) := by
  refine pwImp (L2.pw_and h1 h2) fun σ H Q q => ?_
  obtain ⟨H0, T, s, σ0, o, k, er, p⟩ := q
  refine tE_bnd (Q := fun v H' => ∃ b, v = .bl b ∧ Q b H') k er p fun d s1 e1 f H1 v k1 => ?_
  cases d <;> try (cases f; done)
  rename_i c
  refine ⟨c, k1.isBl At.hd rfl, ?_⟩
  cases c with
  | true => exact iteT (tE_go k1 f p)
  | false =>
    cases f
    obtain ⟨b', e2, q2⟩ := p _ _ k1.bl.skip
    cases e2
    exact iteF q2
theorem pW_or (h1 : PT X a (tT X.K X.mg W ra)) (h2 : PW X (.BoolOp .Or (b :: rest) pos) (tT X.K X.mg W rb)) : PW X (.BoolOp .Or (a :: b :: rest) pos) (tT X.K X.mg W (evOr ra rb)) := by
  refine pwImp (L2.pw_or h1 h2) fun σ H Q q => ?_
  obtain ⟨H0, T, s, σ0, o, k, er, p⟩ := q
  refine tE_bnd (Q := fun v H' => ∃ b, v = .bl b ∧ Q b H') k er p fun d s1 e1 f H1 v k1 => ?_
  cases d <;> try (cases f; done)
  rename_i c
  refine ⟨c, k1.isBl At.hd rfl, ?_⟩
  cases c with
  | false => exact iteF (tE_go k1 f p)
  | true =>
    cases f
    obtain ⟨b', e2, q2⟩ := p _ _ k1.bl.skip
    cases e2
    exact iteT q2
theorem pE_ite (h0 : PT X c (tT X.K X.mg W rc)) (h1 : PE X a (tE X.K X.mg W ra)) (h2 : PE X b (tE X.K X.mg W rb)) :
    PE X (.IfExp c a b pos) (tE X.K X.mg W fun s => bnd (rc s) fun d s => (match d with | .bl true => ra s | .bl false => rb s | _ => none)) := by
  refine peImp (pe_ifExp h0 h1 h2) fun σ H Q q => ?_
  obtain ⟨H0, T, s, σ0, o, k, er, p⟩ := q
  refine tE_bnd k er p fun d s1 e1 f H1 v k1 => ?_
  cases d <;> try (cases f; done)
  rename_i c
  refine ⟨c, k1.isBl At.hd rfl, ?_⟩
  cases c with
  | false => exact iteF (tE_go k1 f p)
  | true => exact iteT (tE_go k1 f p)
/-! #### items and arguments -/
theorem pA_nil : PA X [] (tEs X.K X.mg W fun s => some (.ok [] s)) := by
  refine paImp pa_nil fun σ H Q q => ?_
  obtain ⟨H0, T, s, σ0, o, k, er, p⟩ := q
  cases er
  exact p H [] rfl k
variable {es : List Expr} {rs : SS → Option (O (List D))} {os : SS → Option (O (List Op))}
theorem pA_cons (h1 : PE X e (tE X.K X.mg W ra)) (h2 : PA X es (tEs X.K X.mg W rs)) (hs : starEach (e :: es) X.env = (false, eval e X.env) :: starEach es X.env) :
    PA X (e :: es) (tEs X.K X.mg W fun s => bnd (ra s) fun d s => bnd (rs s) fun ds s => some (.ok (d :: ds) s)) := by
  refine paImp (pa_cons h1 h2 hs) fun σ H Q q => ?_
  obtain ⟨H0, T, s, σ0, o, k, er, p⟩ := q
  have er : bnd (ra s) (fun d s => bnd (rs s) fun ds s => some (O.ok (d :: ds) s)) = some o := er
  cases ea : ra s with
  | none => rw [ea] at er; cases er
  | some r =>
    rw [ea] at er
    cases r with
    | ex c s1 =>
      cases er
      exact ⟨H0, T, s, σ0, _, k, ea, p⟩
    | ok d s1 =>
      have er : bnd (rs s1) (fun ds s => some (O.ok (d :: ds) s)) = some o := er
      refine ⟨H0, T, s, σ0, _, k, ea, fun H1 v k1 => ?_⟩
      cases eb : rs s1 with
      | none => rw [eb] at er; cases er
      | some r2 =>
        rw [eb] at er
        cases r2 with
        | ex c s2 =>
          cases er
          exact ⟨H0, _, s1, σ0, _, k1, eb, fun H' C hc k2 => p H' C hc k2.tail⟩
        | ok ds s2 =>
          cases er
          refine ⟨H0, _, s1, σ0, _, k1, eb, fun H' vs hl k2 => ?_⟩
          refine p H' (v :: vs) (by simp [hl]) (k2.permT ?_)
          show (VE.es (ds.zip vs) ++ (some d, some v) :: T).Perm (VE.es ((d :: ds).zip (v :: vs)) ++ T)
          exact List.perm_middle
theorem pOs_nil : PA X [] (tOs X.K X.mg W fun s => some (.ok [] s)) := by
  refine paImp pa_nil fun σ H Q q => ?_
  obtain ⟨H0, T, s, σ0, o, k, er, p⟩ := q
  cases er
  exact p H [] rfl rfl k
theorem AtAll.more {T T' : List Ent} {σ : L2.St} (k : ∀ x ∈ T, x ∈ T') : ∀ {os : List Op} {vs : List V}, AtAll T σ os vs → AtAll T' σ os vs
  | [], _, h => h
  | o :: os, _, h => by
    obtain ⟨v, vs', rfl, h1, h2⟩ := h
    exact ⟨v, vs', rfl, h1.more k, AtAll.more k h2⟩
theorem pOs_cons (h1 : PE X e (tO X.K X.mg W oa)) (h2 : PA X es (tOs X.K X.mg W os)) (hs : starEach (e :: es) X.env = (false, eval e X.env) :: starEach es X.env) :
    PA X (e :: es) (tOs X.K X.mg W fun s => bnd (oa s) fun d s => bnd (os s) fun ds s => some (.ok (d :: ds) s)) := by
  refine paImp (pa_cons h1 h2 hs) fun σ H Q q => ?_
  obtain ⟨H0, T, s, σ0, o, k, er, p⟩ := q
  have er : bnd (oa s) (fun d s => bnd (os s) fun ds s => some (O.ok (d :: ds) s)) = some o := er
  cases ea : oa s with
  | none => rw [ea] at er; cases er
  | some r =>
    rw [ea] at er
    cases r with
    | ex c s1 =>
      cases er
      exact ⟨H0, T, s, σ0, _, k, ea, p⟩
    | ok d s1 =>
      have er : bnd (os s1) (fun ds s => some (O.ok (d :: ds) s)) = some o := er
      refine ⟨H0, T, s, σ0, _, k, ea, fun H1 v a1 k1 => ?_⟩
      cases eb : os s1 with
      | none => rw [eb] at er; cases er
      | some r2 =>
        rw [eb] at er
        cases r2 with
        | ex c s2 =>
          cases er
          exact ⟨H0, _, s1, σ0, _, k1, eb, fun H' C hc k2 => p H' C hc k2.tail⟩
        | ok ds s2 =>
          cases er
          refine ⟨H0, _, s1, σ0, _, k1, eb, fun H' vs hl a2 k2 => ?_⟩
          have pm : (List.zipWith oe ds vs ++ oe d v :: T).Perm (List.zipWith oe (d :: ds) (v :: vs) ++ T) := List.perm_middle
          refine p H' (v :: vs) (by simp [hl]) ⟨v, vs, rfl, a1.more fun z hz => ?_, a2.more fun z hz => pm.mem_iff.mp hz⟩ (k2.permT pm)
          exact pm.mem_iff.mp (List.mem_append_right _ hz)
theorem pE_tup {x1 : Nat} (h : PA X es (tEs X.K X.mg W rs)) : PE X (.Tuple es x1 pos) (tE X.K X.mg W fun s => bnd (rs s) fun ds s => if ds.length ≤ LIM then some (.ok (.tup ds) s) else none) := by
  refine peImp (pe_tup h) fun σ H Q q => ?_
  obtain ⟨H0, T, s, σ0, o, k, er, p⟩ := q
  have er : bnd (rs s) (fun ds s => if ds.length ≤ LIM then some (O.ok (.tup ds) s) else none) = some o := er
  cases ea : rs s with
  | none => rw [ea] at er; cases er
  | some r =>
    rw [ea] at er
    cases r with
    | ex c s1 =>
      cases er
      exact ⟨H0, T, s, σ0, _, k, ea, p⟩
    | ok ds s1 =>
      have er : (if ds.length ≤ LIM then some (O.ok (.tup ds) s1) else none) = some o := er
      split at er
      · rename_i c
        cases er
        refine ⟨H0, T, s, σ0, _, k, ea, fun H1 vs hl k1 => ⟨by rw [hl, ← LIM_eq]; exact c, fun q hq => p _ _ ?_⟩⟩
        have z := k1.newT hq
        rw [mfz hl, msz hl] at z
        exact z
      · cases er
theorem pE_lst (h : PA X es (tEs X.K X.mg W rs)) : PE X (.List es pos) (tE X.K X.mg W fun s => bnd (rs s) fun ds s => if ds.length ≤ LIM then some (.ok (.lst true ds) s) else none) := by
  refine peImp (pe_lst h) fun σ H Q q => ?_
  obtain ⟨H0, T, s, σ0, o, k, er, p⟩ := q
  have er : bnd (rs s) (fun ds s => if ds.length ≤ LIM then some (O.ok (.lst true ds) s) else none) = some o := er
  cases ea : rs s with
  | none => rw [ea] at er; cases er
  | some r =>
    rw [ea] at er
    cases r with
    | ex c s1 =>
      cases er
      exact ⟨H0, T, s, σ0, _, k, ea, p⟩
    | ok ds s1 =>
      have er : (if ds.length ≤ LIM then some (O.ok (.lst true ds) s1) else none) = some o := er
      split at er
      · rename_i c
        cases er
        refine ⟨H0, T, s, σ0, _, k, ea, fun H1 vs hl k1 => ⟨by rw [hl, ← LIM_eq]; exact c, fun q hq => p _ _ ?_⟩⟩
        have z := k1.newL hq
        rw [mfz hl, msz hl] at z
        exact z
      · cases er
end
end VE

namespace VE
open PySem L2 PyProof.Rows
section
variable {K : PySem.W.Frag} {H H0 H' : Hp} {T : List Ent} {s : SS} {σ0 σ : L2.St}
/-- one item of a list or a tuple, frozen, beside it -/
theorem Sep.elem {b : Bool} {xs : List D} {u : Option V} {x : List Ent} {j : Nat} {d : D} (h : Sep K H H0 ((some (.lst b xs), u) :: x)) (e : xs[j]? = some d) (f : fz d = true) :
    ∃ a vs v, u = some (.ref a) ∧ Rd H a (.lst vs) ∧ vs.length = xs.length ∧ vs[j]? = some v ∧ Sep K H H0 ((some d, some v) :: (some (.lst b xs), u) :: x) := by
  obtain ⟨Hs, fp, s0, s1, ⟨f1, f2, rfl, ⟨w, rfl, r⟩, r2⟩, n, q⟩ := h
  have hj := (List.getElem?_eq_some_iff.mp e).1
  have fin : ∀ (vs : List V) (g : List Addr), Reps K Hs H xs vs g → ∃ v, vs[j]? = some v ∧ Rep K Hs H d v [] := fun vs g rr => by
    have hl := rr.len
    have ev : vs[j]? = some (vs[j]'(by omega)) := List.getElem?_eq_getElem (by omega)
    obtain ⟨g', r'⟩ := rr.get e ev
    have z := r'.fp_nil f
    subst z
    exact ⟨_, ev, r'⟩
  cases b with
  | true =>
    obtain ⟨a, vs, g, rfl, rfl, ha, r1⟩ := id r
    obtain ⟨v, ev, rv⟩ := fin vs g r1
    exact ⟨a, vs, v, rfl, Rd.of ha, r1.len, ev, Hs, [] ++ ((a :: g) ++ f2), s0, s1, ⟨[], _, rfl, ⟨v, rfl, rv⟩, a :: g, f2, rfl, ⟨_, rfl, r⟩, r2⟩, n, q⟩
  | false =>
    obtain ⟨a, vs, rfl, rfl, ha, r1⟩ := id r
    obtain ⟨v, ev, rv⟩ := fin vs [] r1
    exact ⟨a, vs, v, rfl, rd_same s1 ha, r1.len, ev, Hs, [] ++ ([] ++ f2), s0, s1, ⟨[], _, rfl, ⟨v, rfl, rv⟩, [], f2, rfl, ⟨_, rfl, r⟩, r2⟩, n, q⟩
theorem Sep.elemT {xs : List D} {u : Option V} {x : List Ent} {j : Nat} {d : D} (h : Sep K H H0 ((some (.tup xs), u) :: x)) (e : xs[j]? = some d) (f : fz d = true) :
    ∃ a vs v, u = some (.ref a) ∧ SqT K H a vs ∧ vs.length = xs.length ∧ vs[j]? = some v ∧ Sep K H H0 ((some d, some v) :: (some (.tup xs), u) :: x) := by
  obtain ⟨Hs, fp, s0, s1, ⟨f1, f2, rfl, ⟨w, rfl, r⟩, r2⟩, n, q⟩ := h
  have hj := (List.getElem?_eq_some_iff.mp e).1
  obtain ⟨a, vs, rfl, ha, r1⟩ := id r
  have hl := r1.len
  have ev : vs[j]? = some (vs[j]'(by omega)) := List.getElem?_eq_getElem (by omega)
  obtain ⟨g', r'⟩ := r1.get e ev
  have z := r'.fp_nil f
  subst z
  exact ⟨a, vs, _, rfl, seqT_same s1 ha, hl, ev, Hs, [] ++ (f1 ++ f2), s0, s1, ⟨[], _, rfl, ⟨_, rfl, r'⟩, f1, f2, rfl, ⟨_, rfl, r⟩, r2⟩, n, q⟩
theorem Sep.elemD {b : Bool} {ks : List Key} {xs : List D} {u : Option V} {x : List Ent} {k : Key} {d : D} (h : Sep K H H0 ((some (.dic b ks xs), u) :: x)) (e : getK ks xs k = some d) (f : fz d = true) :
    ∃ a vs v, u = some (.ref a) ∧ H a = some (.dK (ks.zip vs)) ∧ valV (ks.zip vs) k = some v ∧ Sep K H H0 ((some d, some v) :: (some (.dic b ks xs), u) :: x) := by
  obtain ⟨Hs, fp, s0, s1, ⟨f1, f2, rfl, ⟨w, rfl, r⟩, r2⟩, n, q⟩ := h
  have fin : ∀ (vs : List V) (g : List Addr), ks.length = vs.length → Reps K Hs H xs vs g → ∃ v, valV (ks.zip vs) k = some v ∧ Rep K Hs H d v [] := fun vs g hk rr => by
    obtain ⟨v, e1, e2⟩ := getK_at rr.len hk e
    obtain ⟨i, hi⟩ := List.getElem?_of_mem e2
    rw [List.getElem?_zip_eq_some] at hi
    obtain ⟨g', r'⟩ := rr.get hi.1 hi.2
    have z := r'.fp_nil f
    subst z
    exact ⟨_, e1, r'⟩
  cases b with
  | true =>
    obtain ⟨a, vs, g, rfl, rfl, ha, hk, r1⟩ := id r
    obtain ⟨v, ev, rv⟩ := fin vs g hk.1 r1
    exact ⟨a, vs, v, rfl, ha, ev, Hs, [] ++ ((a :: g) ++ f2), s0, s1, ⟨[], _, rfl, ⟨v, rfl, rv⟩, a :: g, f2, rfl, ⟨_, rfl, r⟩, r2⟩, n, q⟩
  | false =>
    obtain ⟨a, vs, rfl, rfl, ha, hk, r1⟩ := id r
    obtain ⟨v, ev, rv⟩ := fin vs [] hk.1 r1
    exact ⟨a, vs, v, rfl, s1 _ _ ha, ev, Hs, [] ++ ([] ++ f2), s0, s1, ⟨[], _, rfl, ⟨v, rfl, rv⟩, [], f2, rfl, ⟨_, rfl, r⟩, r2⟩, n, q⟩
end
section
variable {X : Cx} {W : WX} {a b c e : Expr} {pos : Pos} {ra rb rc : SS → Option (O D)} {oa ob : SS → Option (O Op)}
def notSl : Expr → Bool
  | .Slice _ _ _ _ => false
  | _ => true
theorem plain_of {e : Expr} (h : notSl e = true) : ∀ o i, subscripted e false o i = operate [o, i] (getItem o i) := by
  intro o i
  cases e <;> first | rfl | cases h
def rIxA (K : PySem.W.Frag) : R2 := fun x y H Q => (rIxL K x y H Q ∨ rIxT K x y H Q) ∨ ∃ a v, x = .ref a ∧ DGet H a y (some v) ∧ Q v H
theorem ix_dictA (hu : X.A.units + 1 < cLine) : IxR X (fun x y H Q => ∃ a v, x = .ref a ∧ DGet H a y (some v) ∧ Q v H) := by
  intro value slice pins s σ H x y v u Q I rx ry h hs
  obtain ⟨p, z, rfl, g, q⟩ := h
  cases rx
  exact PyProof.Rows.tail_any (dict_typeIs I g) PySem.F.slot_dict_getitem.lookup (d_getItem hu I g ry fun w' s3 I3 rw' => ⟨z, H, I3, rw', q⟩) hs
theorem ix_A (hu : X.A.units + 1 < cLine) : IxR X (rIxA X.K) := IxR.or (IxR.or ix_list ix_tup) (ix_dictA hu)
theorem ixn_eq (n : Nat) (i : Int) : ixn n i = ixN n i := rfl
/-- the item of a tree at the head -/
theorem ix_sep {K : PySem.W.Frag} {H H0 : Hp} {d k g : D} {vx vk : V} {x : List Ent} {Q : VK} {f : List Addr} {Hs : Hp} (h : Sep K H H0 ((some d, some vx) :: x)) (rk : Rep K Hs H k vk f) (e : ixop d k = some g) (fg : fz g = true)
    (q : ∀ v, Sep K H H0 ((some g, some v) :: (some d, some vx) :: x) → Q v H) : rIxA K vx vk H Q := by
  cases d with
  | lst b xs =>
    cases k <;> simp only [ixop] at e <;> try (cases e; done)
    rename_i i
    obtain ⟨rfl, _⟩ := rk
    cases ej : ixn xs.length i with
    | none => rw [ej] at e; cases e
    | some j =>
      rw [ej] at e
      have e : xs[j]? = some g := e
      obtain ⟨p, vs, v, e1, e2, e3, e4, e5⟩ := h.elem e fg
      cases e1
      refine .inl (.inl ⟨p, vs, i, v, rfl, rfl, .inl e2, ?_, q v e5⟩)
      unfold atI
      rw [e3, ← ixn_eq, ej]
      exact e4
  | tup xs =>
    cases k <;> simp only [ixop] at e <;> try (cases e; done)
    rename_i i
    obtain ⟨rfl, _⟩ := rk
    cases ej : ixn xs.length i with
    | none => rw [ej] at e; cases e
    | some j =>
      rw [ej] at e
      have e : xs[j]? = some g := e
      obtain ⟨p, vs, v, e1, e2, e3, e4, e5⟩ := h.elemT e fg
      cases e1
      refine .inl (.inr ⟨p, vs, i, v, rfl, rfl, e2, ?_, q v e5⟩)
      unfold atI
      rw [e3, ← ixn_eq, ej]
      exact e4
  | dic b ks xs =>
    have e : (keyOf k).bind (fun x => getK ks xs x) = some g := by cases k <;> exact e
    cases ek : keyOf k with
    | none => rw [ek] at e; cases e
    | some y =>
      rw [ek] at e
      have e : getK ks xs y = some g := e
      obtain ⟨p, vs, v, e1, e2, e3, e4⟩ := h.elemD e fg
      cases e1
      refine .inr ⟨p, v, rfl, ?_, q v e4⟩
      rw [keyV rk ek, ← e3]
      exact DGet.k e2
  | non => cases k <;> cases e
  | bl _ => cases k <;> cases e
  | int _ => cases k <;> cases e
  | str _ => cases k <;> cases e
  | ptr _ => cases k <;> cases e
theorem getK_frz : ∀ (ks : List Key) (xs : List D) (x : Key) (g : D), getK ks xs x = some g → getK ks (frzs xs) x = some (frz g)
  | [], _, _, _, h => by simp [getK] at h
  | k :: ks, [], _, _, h => by simp [getK] at h
  | k :: ks, d :: ds, x, g, h => by
    by_cases e : k = x
    · simp only [getK, if_pos e] at h
      cases h
      simp [getK, e]
    · simp only [getK, if_neg e] at h
      have := getK_frz ks ds x g h
      simp only [frzs, getK, if_neg e]
      exact this
theorem ixop_frz {d k g : D} (h : ixop d k = some g) : ixop (frz d) k = some (frz g) := by
  cases d with
  | lst b xs =>
    cases k <;> simp only [ixop] at h <;> try (cases h; done)
    rename_i i
    simp only [frz, ixop, frzs_map, List.length_map]
    cases ej : ixn xs.length i with
    | none => rw [ej] at h; cases h
    | some j =>
      rw [ej] at h
      have h : xs[j]? = some g := h
      show (xs.map frz)[j]? = some (frz g)
      rw [List.getElem?_map, h]
      rfl
  | tup xs =>
    cases k <;> simp only [ixop] at h <;> try (cases h; done)
    rename_i i
    simp only [frz, ixop, frzs_map, List.length_map]
    cases ej : ixn xs.length i with
    | none => rw [ej] at h; cases h
    | some j =>
      rw [ej] at h
      have h : xs[j]? = some g := h
      show (xs.map frz)[j]? = some (frz g)
      rw [List.getElem?_map, h]
      rfl
  | dic b ks xs =>
    have h : (keyOf k).bind (fun x => getK ks xs x) = some g := by cases k <;> exact h
    have goal : (keyOf k).bind (fun x => getK ks (frzs xs) x) = some (frz g) := by
      cases ek : keyOf k with
      | none => rw [ek] at h; cases h
      | some y =>
        rw [ek] at h
        exact getK_frz ks xs y g h
    cases k <;> exact goal
  | non => cases k <;> cases h
  | bl _ => cases k <;> cases h
  | int _ => cases k <;> cases h
  | str _ => cases k <;> cases h
  | ptr _ => cases k <;> cases h
theorem ixEnd_cases {x : Op} {d g : D} {s : SS} {o : O D} (h : ixEnd x d g s = some o) : (fz g = true ∧ o = .ok g s) ∨ (∃ i, x = .pl i ∧ o = .ok (frz g) (pt s i (some (frz d)))) ∨ (∃ d', x = .vl d' ∧ o = .ok (frz g) s) := by
  unfold ixEnd at h
  split at h
  · rename_i f
    cases h
    exact .inl ⟨f, rfl⟩
  · cases x with
    | pl i => cases h; exact .inr (.inl ⟨i, rfl, rfl⟩)
    | vl d' => cases h; exact .inr (.inr ⟨d', rfl, rfl⟩)
theorem bind_some {α β : Type} {x : Option α} {f : α → Option β} {y : β} (h : x.bind f = some y) : ∃ a, x = some a ∧ f a = some y := by
  cases x with
  | none => cases h
  | some a => exact ⟨a, rfl, h⟩
theorem pE_ix (hu : X.A.units + 1 < cLine) (h1 : PE X a (tO X.K X.mg W oa)) (h2 : PE X b (tE X.K X.mg W rb)) (hs : notSl b = true) :
    PE X (.Subscript a b pos) (tE X.K X.mg W fun s => bnd (oa s) fun x s => bnd (rb s) fun k s => ixAll x k s) := by
  refine peImp (pe_ix (ix_A hu) h1 h2 (plain_of hs)) fun σ H Q q => ?_
  obtain ⟨H0, T, s, σ0, o, k, er, p⟩ := q
  refine tO_bnd k er p fun x s1 e1 f1 H1 vx a1 k1 => ?_
  refine tE_bnd k1 f1 p.more1 fun kd s2 e2 f2 H2 vk k2 => ?_
  obtain ⟨d, ex, f2⟩ := bind_some f2
  obtain ⟨g, eg, f2⟩ := bind_some f2
  have a2 : At ((some kd, some vk) :: oe x vx :: T) σ x vx := a1.more fun z hz => List.mem_cons_of_mem _ hz
  obtain ⟨R, pm⟩ := k2.at a2 ex
  obtain ⟨Hk, fk, _, rk⟩ := k2.rep (At.hd (d := kd)) rfl
  rcases ixEnd_cases f2 with ⟨fg, rfl⟩ | ⟨i, rfl, rfl⟩ | ⟨d', rfl, rfl⟩
  · refine ix_sep (k2.sep.perm pm) rk eg fg fun v z => p H2 v ?_
    exact (k2.lift fun _ => z.perm (pm.symm.cons _)).skip2
  · have ei : gt s2 i = some d := ex
    have hv : σ[i]? = some (some vx) := a1
    obtain ⟨v', hv', en⟩ := k2.gt ei
    rw [hv] at hv'
    cases hv'
    have z0 := ((Sep.focus en).mp k2.sep).freeze
    refine ix_sep z0 rk (ixop_frz eg) (fz_frz g) fun v z => p H2 v ?_
    have k3 : Ok X.K H0 H2 ((some (frz g), some v) :: (some kd, some vk) :: (none, some vx) :: T) (pt s2 i (some (frz d))) σ0 σ := k2.changeZ ei hv (z.perm (List.Perm.swap _ _ _))
    exact k3.skip2
  · cases ex
    have z0 := (k2.sep.perm pm).freeze
    refine ix_sep z0 rk (ixop_frz eg) (fz_frz g) fun v z => p H2 v ?_
    have k3 : Ok X.K H0 H2 ((some (frz g), some v) :: (some kd, some vk) :: (none, some vx) :: T) s2 σ0 σ := k2.lift fun _ => by
      have pm2 : ((some d, some vx) :: ((some kd, some vk) :: (T ++ ents s2 σ))).Perm ((some d, some vx) :: R) := (List.Perm.swap _ _ _).trans pm
      have z1 : Sep X.K H2 H0 ((some (frz g), some v) :: (some (frz d), some vx) :: ((some kd, some vk) :: (T ++ ents s2 σ))) := z.perm ((pm2.cons_inv.symm.cons _).cons _)
      have z2 := (z1.perm (List.Perm.swap _ _ _)).forget (v := some vx)
      exact z2.perm ((List.Perm.swap _ _ _).trans ((List.Perm.swap _ _ _).cons _))
    exact k3.skip2
end
end VE

namespace VE
open PySem L2 PyProof.Rows
section
variable {X : Cx} {W : WX} {a b c e : Expr} {pos : Pos} {ra rb rc : SS → Option (O D)} {oa ob : SS → Option (O Op)}
/-! #### slices -/
def PostI (K : PySem.W.Frag) (mg : Str → Option Value) (W : WX) (H0 : Hp) (T : List Ent) (σ0 σ : L2.St) (Q : Option Int → Hp → Prop) : O (Option Int) → Prop
  | .ok i s' => ∀ H', Ok K H0 H' T s' σ0 σ → Q i H'
  | .ex c s' => ∀ H' C, mg c = some (.ref C) → Ok K H0 H' T s' σ0 σ → W (.ref C) none σ H'
def tI (K : PySem.W.Frag) (mg : Str → Option Value) (W : WX) (r : SS → Option (O (Option Int))) : TO := fun σ H Q => ∃ H0 T s σ0 o, Ok K H0 H T s σ0 σ ∧ r s = some o ∧ PostI K mg W H0 T σ0 σ Q o
theorem poImp {e : Option Expr} {t t' : TO} (h : PO X e t) (k : ∀ σ H Q, t' σ H Q → t σ H Q) : PO X e t' := ⟨fun pins s σ H Q I q => h.run pins s σ H Q I (k σ H Q q)⟩
theorem pI_no : PO X none (tI X.K X.mg W fun s => some (.ok none s)) := poImp po_none fun σ H Q q => by
  obtain ⟨H0, T, s, σ0, o, k, er, p⟩ := q
  cases er
  exact p H k
theorem pI_so (h : PE X e (tE X.K X.mg W ra)) : PO X (some e) (tI X.K X.mg W fun s => bnd (ra s) fun d s => (match d with | .int i => some (.ok (some i) s) | _ => none)) := poImp (po_some h) fun σ H Q q => by
  obtain ⟨H0, T, s, σ0, o, k, er, p⟩ := q
  have er : bnd (ra s) (fun d s => (match d with | .int i => some (O.ok (some i) s) | _ => none)) = some o := er
  cases ea : ra s with
  | none => rw [ea] at er; cases er
  | some r =>
    rw [ea] at er
    cases r with
    | ex c s1 =>
      cases er
      exact ⟨H0, T, s, σ0, _, k, ea, p⟩
    | ok d s1 =>
      cases d <;> try (cases er; done)
      cases er
      refine ⟨H0, T, s, σ0, _, k, ea, fun H1 v k1 => ⟨_, k1.isInt At.hd rfl, p H1 k1.tail⟩⟩
def rSlA2 (K : PySem.W.Frag) : V → Option Int → Option Int → Hp → VK → Prop := fun x lo hi H Q => rSlL K x lo hi H Q ∨ rSlA K x lo hi H Q
theorem sl_A2 : SlR X (rSlA2 X.K) := SlR.or sl_list sl_tupA
theorem cut_map {xs : List D} {vs : List V} (h : vs.length = xs.length) (lo hi : Option Int) :
    ((((xs.zip vs).drop (HT.sIx xs.length 0 lo)).take (HT.sIx xs.length xs.length hi - HT.sIx xs.length 0 lo)).map (·.1) = cutD xs lo hi) ∧
    ((((xs.zip vs).drop (HT.sIx xs.length 0 lo)).take (HT.sIx xs.length xs.length hi - HT.sIx xs.length 0 lo)).map (·.2) = cutV vs lo hi) := by
  constructor
  · rw [List.map_take, List.map_drop, mfz h]
    rfl
  · rw [List.map_take, List.map_drop, msz h]
    unfold cutV
    rw [h]
theorem cut_all {α : Type} (xs : List α) (n : Nat) (h : n = xs.length) : (xs.drop 0).take (n - 0) = xs := by
  subst h
  simp
theorem pE_sl {lo hi : Option Expr} {p2 : Pos} {rl rh : SS → Option (O (Option Int))} (h1 : PE X a (tO X.K X.mg W oa)) (h2 : PO X lo (tI X.K X.mg W rl)) (h3 : PO X hi (tI X.K X.mg W rh)) :
    PE X (.Subscript a (.Slice lo hi none p2) pos) (tE X.K X.mg W fun s => bnd (oa s) fun x s => bnd (rl s) fun l s => bnd (rh s) fun h s => (match view s x with | some d => up (slop d l h) s | none => none)) := by
  refine peImp (pe_slice sl_A2 h1 h2 h3) fun σ H Q q => ?_
  obtain ⟨H0, T, s, σ0, o, k, er, p⟩ := q
  refine tO_bnd k er p fun x s1 e1 f1 H1 vx a1 k1 => ?_
  have f1 : bnd (rl s1) (fun l s => bnd (rh s) fun h s => (match view s x with | some d => up (slop d l h) s | none => none)) = some o := f1
  cases el : rl s1 with
  | none => rw [el] at f1; cases f1
  | some rr =>
    rw [el] at f1
    cases rr with
    | ex c s2 =>
      cases f1
      exact ⟨H0, _, s1, σ0, _, k1, el, fun H' C hc k2 => p H' C hc k2.tail⟩
    | ok l s2 =>
      refine ⟨H0, _, s1, σ0, _, k1, el, fun H2 k2 => ?_⟩
      have f1 : bnd (rh s2) (fun h s => (match view s x with | some d => up (slop d l h) s | none => none)) = some o := f1
      cases eh : rh s2 with
      | none => rw [eh] at f1; cases f1
      | some rr =>
        rw [eh] at f1
        cases rr with
        | ex c s3 =>
          cases f1
          exact ⟨H0, _, s2, σ0, _, k2, eh, fun H' C hc k2 => p H' C hc k2.tail⟩
        | ok h s3 =>
          refine ⟨H0, _, s2, σ0, _, k2, eh, fun H3 k3 => ?_⟩
          have f1 : (match view s3 x with | some d => up (slop d l h) s3 | none => none) = some o := f1
          cases ex : view s3 x with
          | none => rw [ex] at f1; cases f1
          | some d =>
            rw [ex] at f1
            have f1 : up (slop d l h) s3 = some o := f1
            cases d with
            | lst bb xs =>
              simp only [slop] at f1
              split at f1
              · rename_i fx
                cases f1
                obtain ⟨q1, vs, rfl, r1, l1, k4⟩ := k3.items a1 ex fx
                refine .inl ⟨q1, vs, rfl, .inl r1, fun pp hp => p _ _ ?_⟩
                have k5 := (k4.choose (dw := ((xs.zip vs).drop (HT.sIx xs.length 0 l)).take (HT.sIx xs.length xs.length h - HT.sIx xs.length 0 l)) (zip_fz fx) fun z hz => List.mem_of_mem_drop (List.mem_of_mem_take hz)).newL hp
                rw [(cut_map l1 l h).1, (cut_map l1 l h).2] at k5
                exact k5.skip
              · cases f1
            | tup xs =>
              simp only [slop] at f1
              split at f1
              · rename_i fx
                cases f1
                obtain ⟨q1, vs, rfl, r1, l1, k4⟩ := k3.itemsT a1 ex fx
                refine .inr ⟨q1, vs, rfl, r1, fun hw => ?_, fun hw pp hp => p _ _ ?_⟩
                · have ec : cutD xs l h = xs := by
                    unfold cutD
                    rw [← l1, hw.1, hw.2]
                    exact cut_all xs _ l1
                  rw [ec] at p
                  obtain ⟨R, pm⟩ := k3.at a1 ex
                  have k5 : Ok X.K H0 H3 ((some (.tup xs), some (.ref q1)) :: oe x (.ref q1) :: T) s3 σ0 σ := k3.lift fun z => ((z.perm pm).copy (by simpa [fz] using fx)).perm (pm.symm.cons _)
                  exact p _ _ k5.skip
                · have k5 := (k4.choose (dw := ((xs.zip vs).drop (HT.sIx xs.length 0 l)).take (HT.sIx xs.length xs.length h - HT.sIx xs.length 0 l)) (zip_fz fx) fun z hz => List.mem_of_mem_drop (List.mem_of_mem_take hz)).newT hp
                  rw [(cut_map l1 l h).1, (cut_map l1 l h).2] at k5
                  exact k5.skip
              · cases f1
            | _ => cases f1
theorem pE_rev {k : Nat} {p1 p2 p3 : Pos} (h : PE X a (tO X.K X.mg W oa)) : PE X (.Subscript a (.Slice none none (some (.UnaryOp .USub (.Constant (.int 1) k p1) p2)) p3) pos)
    (tE X.K X.mg W fun s => bnd (oa s) fun x s => (match view s x with | some (.lst _ xs) => if fzs xs then some (.ok (.lst true xs.reverse) s) else none | _ => none)) := by
  refine peImp (pe_revL h) fun σ H Q q => ?_
  obtain ⟨H0, T, s, σ0, o, k, er, p⟩ := q
  refine tO_bnd k er p fun x s1 e1 f1 H1 vx a1 k1 => ?_
  have f1 : (match view s1 x with | some (.lst _ xs) => if fzs xs then some (O.ok (.lst true xs.reverse) s1) else none | _ => none) = some o := f1
  cases ex : view s1 x with
  | none => rw [ex] at f1; cases f1
  | some d =>
    rw [ex] at f1
    cases d <;> try (cases f1; done)
    rename_i bb xs
    have f1 : (if fzs xs then some (O.ok (.lst true xs.reverse) s1) else none) = some o := f1
    split at f1
    · rename_i fx
      cases f1
      obtain ⟨q1, vs, rfl, r1, l1, k4⟩ := k1.items a1 ex fx
      refine ⟨q1, vs, rfl, .inl r1, fun pp hp => p _ _ ?_⟩
      have k5 := (k4.choose (dw := (xs.zip vs).reverse) (zip_fz fx) fun z hz => List.mem_reverse.mp hz).newL hp
      rw [List.map_reverse, List.map_reverse, mfz l1, msz l1] at k5
      exact k5.skip
    · cases f1
/-! #### calls of defs -/
end
def PostC (K : PySem.W.Frag) (mg : Str → Option Value) (H0 : Hp) (T : List Ent) (vs : List V) (Q : VK) (E : XK) : RC → Prop
  | .ret d outs => ∀ H' v, Sep K H' H0 ((some d, some v) :: (outs.zip (vs.map some) ++ T)) → Q v H'
  | .exc c outs => ∀ H' C, mg c = some (.ref C) → Sep K H' H0 (outs.zip (vs.map some) ++ T) → E (.ref C) none H'
/-- what a def that computes g promises -/
def spR (K : PySem.W.Frag) (mg : Str → Option Value) (ar : Nat) (g : List D → Option RC) : Sp := fun vs H Q E =>
  vs.length = ar ∧ ∃ H0 T ds rc, ds.length = vs.length ∧ Sep K H H0 (es (ds.zip vs) ++ T) ∧ g ds = some rc ∧ PostC K mg H0 T vs Q E rc
section
variable {K : PySem.W.Frag} {H H0 H' : Hp} {T : List Ent} {s : SS} {σ0 σ : L2.St}
/-- the places' values -/
def Plc (σ : L2.St) : List Op → List V → Prop
  | [], vs => vs = []
  | o :: os, vs => ∃ v vs', vs = v :: vs' ∧ (match o with | .pl i => σ[i]? = some (some v) | .vl _ => True) ∧ Plc σ os vs'
theorem Plc.of : ∀ {os : List Op} {vs : List V}, AtAll T σ os vs → Plc σ os vs
  | [], _, h => h
  | o :: os, _, h => by
    obtain ⟨v, vs', rfl, h1, h2⟩ := h
    refine ⟨v, vs', rfl, ?_, Plc.of h2⟩
    cases o with
    | pl i => exact h1
    | vl d => trivial
theorem Ok.mvs : ∀ {os : List Op} {vs : List V} {s : SS} {T : List Ent} {ds : List D} {s' : SS}, Ok K H0 H (List.zipWith oe os vs ++ T) s σ0 σ → Plc σ os vs → mvs os s = some (ds, s') →
    ds.length = vs.length ∧ Ok K H0 H (es (ds.zip vs) ++ T) s' σ0 σ
  | [], _, s, T, ds, s', h, pl, e => by
    have pl : _ = [] := pl
    subst pl
    cases e
    exact ⟨rfl, h⟩
  | o :: os, _, s, T, ds, s', h, pl, e => by
    obtain ⟨v, vs', rfl, p1, p2⟩ := pl
    have e : (match mv1 o s with | some (d, s) => (match VE.mvs os s with | some (ds, s) => some (d :: ds, s) | none => none) | none => none) = some (ds, s') := e
    have h : Ok K H0 H (oe o v :: (List.zipWith oe os vs' ++ T)) s σ0 σ := h
    have step : ∀ d s1, mv1 o s = some (d, s1) → Ok K H0 H ((some d, some v) :: (List.zipWith oe os vs' ++ T)) s1 σ0 σ := by
      intro d s1 e1
      cases o with
      | vl d' =>
        cases e1
        exact h
      | pl i =>
        have e1 : (match VE.gt s i with | some d => some (d, if fz d then s else pt s i none) | none => none) = some (d, s1) := e1
        have h := h.tail
        cases eg : VE.gt s i with
        | none => rw [eg] at e1; cases e1
        | some d' =>
          rw [eg] at e1
          have e1 : some (d', if fz d' then s else pt s i none) = some (d, s1) := e1
          obtain ⟨v', hv', en⟩ := h.gt eg
          have p1 : σ[i]? = some (some v) := p1
          rw [p1] at hv'
          cases hv'
          have e2 := Option.some.inj e1
          have e3 : d' = d := congrArg Prod.fst e2
          have e4 : (if fz d' then s else pt s i none) = s1 := congrArg Prod.snd e2
          subst e3
          split at e4
          · rename_i f
            subst e4
            obtain ⟨R, pm⟩ := h.at (show At _ σ (.pl i) v from p1) eg
            exact h.lift fun z => ((z.perm pm).copy f).perm (pm.symm.cons _)
          · subst e4
            refine h.changeZ eg p1 ?_
            have z := (Sep.focus en).mp h.sep
            exact z.non
    cases e1 : mv1 o s with
    | none => rw [e1] at e; cases e
    | some r =>
      obtain ⟨d, s1⟩ := r
      rw [e1] at e
      have e : (match VE.mvs os s1 with | some (ds, s) => some (d :: ds, s) | none => none) = some (ds, s') := e
      cases e2 : VE.mvs os s1 with
      | none => rw [e2] at e; cases e
      | some r =>
        obtain ⟨ds1, s2⟩ := r
        rw [e2] at e
        cases e
        have k1 := (step d s1 e1).permT (T' := List.zipWith oe os vs' ++ (some d, some v) :: T) List.perm_middle.symm
        obtain ⟨l, k2⟩ := Ok.mvs k1 p2 e2
        refine ⟨by simp [l], k2.permT ?_⟩
        show (es (ds1.zip vs') ++ (some d, some v) :: T).Perm (es ((d :: ds1).zip (v :: vs')) ++ T)
        exact List.perm_middle
theorem Ok.fill {i : Nat} {d : D} {v : V} (h : Ok K H0 H ((some d, some v) :: T) s σ0 σ) (e : VE.gt s i = none) (hv : σ[i]? = some (some v)) : Ok K H0 H T (pt s i (some d)) σ0 σ := by
  have hi : i < s.length := by rw [h.len]; exact (List.getElem?_eq_some_iff.mp hv).1
  have ea : s[i]? = some s[i] := List.getElem?_eq_getElem hi
  have ed : s[i].d = none := by
    rw [gt_eq, ea] at e
    exact e
  have en : (ents s σ)[i]? = some (none, some v) := by
    have := ents_get ea hv
    rw [ed] at this
    exact this
  have hl : i < (ents s σ).length := (List.getElem?_eq_some_iff.mp en).1
  have q := (Sep.focus (T := (some d, some v) :: T) en).mp h.sep
  have q2 : Sep K H H0 ((some d, some v) :: (T ++ (ents s σ).eraseIdx i)) := q.drop
  have z := Sep.put hl q2
  have ez : ents (pt s i (some d)) σ = (ents s σ).set i (some d, some v) := by
    rw [pt_eq, ea]
    show ents (s.set i ⟨s[i].org, some d⟩) σ = _
    have := ents_set s σ i ⟨s[i].org, some d⟩ (some v)
    rw [set_self hv] at this
    exact this
  refine ⟨by rw [pt_len]; exact h.len, by rw [ez]; exact z, fun j b hb ho => ?_⟩
  rw [pt_eq, ea] at hb
  have hb : (s.set i ⟨s[i].org, some d⟩)[j]? = some b := hb
  by_cases hj : i = j
  · subst hj
    rw [List.getElem?_set_self hi] at hb
    cases hb
    exact h.org i _ ea ho
  · rw [List.getElem?_set_ne hj] at hb
    exact h.org j b hb ho
theorem Ok.bks : ∀ {os : List Op} {outs : List (Option D)} {vs : List V} {s s' : SS} {T : List Ent}, Ok K H0 H (outs.zip (vs.map some) ++ T) s σ0 σ → Plc σ os vs → bks os outs s = some s' → Ok K H0 H T s' σ0 σ
  | [], [], _, s, s', T, h, pl, e => by
    cases e
    exact h
  | [], _ :: _, _, _, _, _, _, _, e => by cases e
  | _ :: _, [], _, _, _, _, _, _, e => by cases e
  | o :: os, d :: outs, _, s, s', T, h, pl, e => by
    obtain ⟨v, vs', rfl, p1, p2⟩ := pl
    have h : Ok K H0 H ((d, some v) :: (outs.zip (vs'.map some) ++ T)) s σ0 σ := h
    have e : (match bk1 o d s with | some s => VE.bks os outs s | none => none) = some s' := e
    have step : ∀ s1, bk1 o d s = some s1 → Ok K H0 H (outs.zip (vs'.map some) ++ T) s1 σ0 σ := by
      intro s1 e1
      cases o with
      | vl _ =>
        cases e1
        exact h.tail
      | pl i =>
        have e1 : (match VE.gt s i with | some _ => some s | none => d.map fun d => pt s i (some d)) = some s1 := e1
        cases eg : VE.gt s i with
        | some _ =>
          rw [eg] at e1
          cases e1
          exact h.tail
        | none =>
          rw [eg] at e1
          cases d with
          | none => cases e1
          | some d =>
            cases e1
            exact h.fill eg p1
    cases e1 : bk1 o d s with
    | none => rw [e1] at e; cases e
    | some s1 =>
      rw [e1] at e
      exact Ok.bks (step s1 e1) p2 e
end
section
variable {X : Cx} {W : WX} {a b c e : Expr} {p pos : Pos} {es : List Expr} {os : SS → Option (O (List Op))}
def callEnd (g : List D → Option RC) (os : List Op) (s : SS) : Option (O D) := match mvs os s with
      | some (ds, s) => (match g ds with
        | some (.ret d outs) => (match bks os outs s with | some s => some (.ok d s) | none => none)
        | some (.exc c outs) => (match bks os outs s with | some s => some (.ex c s) | none => none)
        | none => none)
      | none => none
theorem tCallOk {g : List D → Option RC} {ar : Nat} {σ : L2.St} {H : Hp} {Q : VK} {H0 : Hp} {T : List Ent} {s : SS} {σ0 : L2.St} {o : O D} {ops : List Op} {vs : List V} (hl : vs.length = ar)
    (k : Ok X.K H0 H (List.zipWith oe ops vs ++ T) s σ0 σ) (pl : Plc σ ops vs) (er : callEnd g ops s = some o) (p : PostE X.K X.mg W H0 T σ0 σ Q o) : spR X.K X.mg ar g vs H Q (WE W σ) := by
  unfold callEnd at er
  cases e1 : mvs ops s with
  | none => rw [e1] at er; cases er
  | some r =>
    obtain ⟨ds, s1⟩ := r
    rw [e1] at er
    obtain ⟨l, k1⟩ := k.mvs pl e1
    have er : (match g ds with
        | some (.ret d outs) => (match bks ops outs s1 with | some s => some (O.ok d s) | none => none)
        | some (.exc c outs) => (match bks ops outs s1 with | some s => some (O.ex c s) | none => none)
        | none => none) = some o := er
    cases eg : g ds with
    | none => rw [eg] at er; cases er
    | some rc =>
      rw [eg] at er
      refine ⟨hl, H0, T ++ ents s1 σ, ds, rc, l, by rw [← List.append_assoc]; exact k1.sep, eg, ?_⟩
      cases rc with
      | ret d outs =>
        have er : (match bks ops outs s1 with | some s => some (O.ok d s) | none => none) = some o := er
        cases eb : bks ops outs s1 with
        | none => rw [eb] at er; cases er
        | some s2 =>
          rw [eb] at er
          cases er
          intro H' v z
          refine p H' v ?_
          have k2 : Ok X.K H0 H' (outs.zip (vs.map some) ++ ((some d, some v) :: T)) s1 σ0 σ := ⟨k1.len, z.perm (by
            have pm := (List.perm_middle (a := ((some d, some v) : Ent)) (l₁ := outs.zip (vs.map some)) (l₂ := T ++ ents s1 σ)).symm
            simpa only [List.append_assoc, List.cons_append] using pm), k1.org⟩
          exact k2.bks pl eb
      | exc c outs =>
        have er : (match bks ops outs s1 with | some s => some (O.ex c s) | none => none) = some o := er
        cases eb : bks ops outs s1 with
        | none => rw [eb] at er; cases er
        | some s2 =>
          rw [eb] at er
          cases er
          intro H' C hc z
          refine p H' C hc ?_
          have k2 : Ok X.K H0 H' (outs.zip (vs.map some) ++ T) s1 σ0 σ := ⟨k1.len, by rw [List.append_assoc]; exact z, k1.org⟩
          exact k2.bks pl eb
theorem pE_call {k : Nat} {f : Addr} {fd : FuncData} {ps : List Str} {x : Str} {g : List D → Option RC} (F : FnOk X.prog X.w X.K X.mg X.base (L2.CX X.prog X.w) k f fd ps (spR X.K X.mg (e :: es).length g)) (hr : Room k X.A) (hg : Gl X x) (hm : X.mg x = some (.ref f))
    (hk : PySem.W.keepIn X.K (.ref f) = true) (hb : Binds X.K fd ps []) (tk : Takes X W) (ha : PA X (e :: es) (tOs X.K X.mg W os)) (hdb : (x == ("__debug__" : Str)) = false)
    (he : starEach (e :: es) X.env = (false, eval e X.env) :: starEach es X.env) (hpl : (backTo pos (starEach es X.env)).any (·.1) = false)
    (hl : ∀ s ops s', os s = some (.ok ops s') → ops.length = (e :: es).length) :
    PE X (.Call (.Name x p) (e :: es) [] pos) (tE X.K X.mg W fun s => bnd (os s) fun ops s => callEnd g ops s) := by
  refine peImp (pe_callS F hr hg hm hk hb (fun σ => passAt tk σ) ha hdb he hpl) fun σ H Q q => ?_
  obtain ⟨H0, T, s, σ0, o, k, er, p⟩ := q
  have er : bnd (os s) (fun ops s => callEnd g ops s) = some o := er
  cases ea : os s with
  | none => rw [ea] at er; cases er
  | some r =>
    rw [ea] at er
    cases r with
    | ex c s1 =>
      cases er
      exact ⟨H0, T, s, σ0, _, k, ea, p⟩
    | ok ops s1 =>
      exact ⟨H0, T, s, σ0, _, k, ea, fun H1 vs hl' a1 k1 => tCallOk (hl'.trans (hl _ _ _ ea)) k1 (Plc.of a1) er p⟩
end
end VE

namespace VE
open PySem L2 PyProof.Rows
def Nav (K : PySem.W.Frag) (H : Hp) : V → List Int → V → Prop
  | v, [], w => w = v
  | v, k :: p, w => ∃ a vs j u, v = .ref a ∧ (SqL K H a vs ∨ SqT K H a vs) ∧ ixN vs.length k = some j ∧ vs[j]? = some u ∧ Nav K H u p w
section
variable {K : PySem.W.Frag} {H H0 H' : Hp}
theorem Nav.snoc : ∀ {p : List Int} {v u w : V} {k : Int} {a : Addr} {vs : List V} {j : Nat}, Nav K H v p u → u = .ref a → (SqL K H a vs ∨ SqT K H a vs) → ixN vs.length k = some j → vs[j]? = some w → Nav K H v (p ++ [k]) w
  | [], v, u, w, k, a, vs, j, h, e, s, i, g => by
    have h : u = v := h
    subst h
    exact ⟨a, vs, j, w, e, s, i, g, rfl⟩
  | k0 :: p, v, u, w, k, a, vs, j, h, e, s, i, g => by
    obtain ⟨a0, vs0, j0, u0, e0, s0, i0, g0, n⟩ := h
    exact ⟨a0, vs0, j0, u0, e0, s0, i0, g0, Nav.snoc n e s i g⟩
theorem Nav.unsnoc : ∀ {p : List Int} {v w : V} {k : Int}, Nav K H v (p ++ [k]) w → ∃ u a vs j, Nav K H v p u ∧ u = .ref a ∧ (SqL K H a vs ∨ SqT K H a vs) ∧ ixN vs.length k = some j ∧ vs[j]? = some w
  | [], v, w, k, h => by
    obtain ⟨a, vs, j, u, e, s, i, g, n⟩ := h
    have n : w = u := n
    subst n
    exact ⟨v, a, vs, j, rfl, e, s, i, g⟩
  | k0 :: p, v, w, k, h => by
    obtain ⟨a0, vs0, j0, u0, e0, s0, i0, g0, n⟩ := h
    obtain ⟨u, a, vs, j, n1, n2, n3, n4, n5⟩ := Nav.unsnoc n
    exact ⟨u, a, vs, j, ⟨a0, vs0, j0, u0, e0, s0, i0, g0, n1⟩, n2, n3, n4, n5⟩
theorem Sep.open : ∀ (p : List Int) {d : D} {u : Option V} {x : List Ent} {xs : List D}, Sep K H H0 ((some d, u) :: x) → geto p d = some xs →
    ∃ v0 v, u = some v0 ∧ Nav K H v0 p v ∧ Sep K H H0 ((some (.lst true xs), some v) :: (some (puto (.ptr v) p d), u) :: x)
  | [], d, u, x, xs, h, e => by
    cases d <;> try (cases e; done)
    rename_i o ys
    cases o <;> cases e
    obtain ⟨v, rfl⟩ := h.val
    refine ⟨v, v, rfl, rfl, ?_⟩
    have z : Sep K H H0 ((some (.ptr v), some v) :: (some (.lst true xs), some v) :: x) := h.scal fun _ => ⟨rfl, rfl⟩
    exact z.perm (List.Perm.swap _ _ _)
  | k :: p, d, u, x, xs, h, e => by
    have two : ∀ {A B C : Ent} {r : List Ent}, Sep K H H0 (A :: B :: C :: r) → Sep K H H0 (A :: C :: B :: r) := fun z => z.perm ((List.Perm.swap _ _ _).cons _)
    cases d with
    | lst o ys =>
      cases o <;> simp only [geto] at e <;> try (cases e; done)
      obtain ⟨j, ej, e⟩ := bind_some e
      obtain ⟨y, ey, e⟩ := bind_some e
      obtain ⟨a, vs, v, rfl, ha, hl, ev, z⟩ := h.out ey
      obtain ⟨v0, w, e0, n, z2⟩ := Sep.open p z e
      cases e0
      refine ⟨.ref a, w, rfl, ⟨a, vs, j, v, rfl, .inl (SqL.of ha), by rw [hl]; exact ej, ev, n⟩, ?_⟩
      have hj := (List.getElem?_eq_some_iff.mp ey).1
      have z3 := (z2.perm (List.Perm.swap _ _ _)).perm ((List.Perm.swap _ _ _).cons _)
      have z4 := z3.back (j := j) (by rw [List.getElem?_set_self hj])
      rw [List.set_set] at z4
      have ep : puto (.ptr w) (k :: p) (.lst true ys) = .lst true (ys.set j (puto (.ptr w) p y)) := by
        simp only [puto, ej, ey]
      rw [ep]
      exact z4.perm (List.Perm.swap _ _ _)
    | tup ys =>
      simp only [geto] at e
      obtain ⟨j, ej, e⟩ := bind_some e
      obtain ⟨y, ey, e⟩ := bind_some e
      obtain ⟨a, vs, v, rfl, ha, hl, ev, z⟩ := h.outT ey
      obtain ⟨v0, w, e0, n, z2⟩ := Sep.open p z e
      cases e0
      refine ⟨.ref a, w, rfl, ⟨a, vs, j, v, rfl, .inr ha, by rw [hl]; exact ej, ev, n⟩, ?_⟩
      have hj := (List.getElem?_eq_some_iff.mp ey).1
      have z3 := (z2.perm (List.Perm.swap _ _ _)).perm ((List.Perm.swap _ _ _).cons _)
      have z4 := z3.backT (j := j) (by rw [List.getElem?_set_self hj])
      rw [List.set_set] at z4
      have ep : puto (.ptr w) (k :: p) (.tup ys) = .tup (ys.set j (puto (.ptr w) p y)) := by
        simp only [puto, ej, ey]
      rw [ep]
      exact z4.perm (List.Perm.swap _ _ _)
    | _ => cases e
theorem Sep.close : ∀ (p : List Int) {d d' : D} {u : Option V} {x : List Ent} {xs : List D} {v : V}, Sep K H H0 ((some d', some v) :: (some (puto (.ptr v) p d), u) :: x) → geto p d = some xs → Sep K H H0 ((some (puto d' p d), u) :: x)
  | [], d, d', u, x, xs, v, h, e => by
    have h : Sep K H H0 ((some d', some v) :: (some (.ptr v), u) :: x) := by cases d <;> exact h
    have z := h.perm (List.Perm.swap _ _ _)
    obtain ⟨w, rfl⟩ := z.val
    obtain ⟨_, _, _, r⟩ := z.rep
    have r : w = v ∧ _ = [] := r
    rw [r.1]
    have goal : Sep K H H0 ((some d', some v) :: x) := h.skipS
    cases d <;> exact goal
  | k :: p, d, d', u, x, xs, v, h, e => by
    cases d with
    | lst o ys =>
      cases o <;> simp only [geto] at e <;> try (cases e; done)
      obtain ⟨j, ej, e⟩ := bind_some e
      obtain ⟨y, ey, e⟩ := bind_some e
      have hj := (List.getElem?_eq_some_iff.mp ey).1
      have ep : ∀ q, puto q (k :: p) (.lst true ys) = .lst true (ys.set j (puto q p y)) := fun q => by simp only [puto, ej, ey]
      rw [ep] at h ⊢
      obtain ⟨a, vs, w, rfl, ha, hl, ev, z⟩ := (h.perm (List.Perm.swap _ _ _)).out (j := j) (d := puto (.ptr v) p y) (by rw [List.getElem?_set_self hj])
      rw [List.set_set] at z
      have z1 : Sep K H H0 ((some d', some v) :: (some (puto (.ptr v) p y), some w) :: (some (.lst true (ys.set j (.ptr w))), some (.ref a)) :: x) := by
        refine z.perm ?_
        exact ((List.Perm.swap _ _ _).cons _).trans (List.Perm.swap _ _ _)
      have z2 := (Sep.close p z1 e).back (j := j) (by rw [List.getElem?_set_self hj])
      rw [List.set_set] at z2
      exact z2
    | tup ys =>
      simp only [geto] at e
      obtain ⟨j, ej, e⟩ := bind_some e
      obtain ⟨y, ey, e⟩ := bind_some e
      have hj := (List.getElem?_eq_some_iff.mp ey).1
      have ep : ∀ q, puto q (k :: p) (.tup ys) = .tup (ys.set j (puto q p y)) := fun q => by simp only [puto, ej, ey]
      rw [ep] at h ⊢
      obtain ⟨a, vs, w, rfl, ha, hl, ev, z⟩ := (h.perm (List.Perm.swap _ _ _)).outT (j := j) (d := puto (.ptr v) p y) (by rw [List.getElem?_set_self hj])
      rw [List.set_set] at z
      have z1 : Sep K H H0 ((some d', some v) :: (some (puto (.ptr v) p y), some w) :: (some (.tup (ys.set j (.ptr w))), some (.ref a)) :: x) := by
        refine z.perm ?_
        exact ((List.Perm.swap _ _ _).cons _).trans (List.Perm.swap _ _ _)
      have z2 := (Sep.close p z1 e).backT (j := j) (by rw [List.getElem?_set_self hj])
      rw [List.set_set] at z2
      exact z2
    | _ => cases e
end
/-! #### what each method does -/
def MS (m : MU) (r : V → List V → Hp → VK → Prop) : Prop :=
  ∀ {K : PySem.W.Frag} {H H0 : Hp} {x : List Ent} {xs ds xs' : List D} {res : D} {a : Addr} {vs : List V} {Q : VK}, vs.length = ds.length → muop m xs ds = some (xs', res) →
    Sep K H H0 ((some (.lst true xs), some (.ref a)) :: (es (ds.zip vs) ++ x)) → (∀ H' w, Sep K H' H0 ((some res, some w) :: (some (.lst true xs'), some (.ref a)) :: x) → Q w H') → r (.ref a) vs H Q
theorem ms_append : MS .append rAppend := by
  intro K H H0 x xs ds xs' res a vs Q hv hm h q
  match ds, vs, hv, hm, h with
  | [d], [v], _, hm, h =>
    simp only [muop] at hm
    split at hm
    · rename_i c
      cases hm
      obtain ⟨a', ws, e, ha, hl, k⟩ := h.lupd
      cases e
      refine ⟨a, ws, v, rfl, rfl, ha, by rw [hl, ← LIM_eq]; exact c, q _ _ ?_⟩
      have z := k (xs.zip ws ++ [(d, v)]) [] (by simp)
      rw [List.map_append, List.map_append, mfz hl, msz hl] at z
      exact z.nonD
    · cases hm
  | [], _, _, hm, _ => cases hm
  | _ :: _ :: _, _, _, hm, _ => cases hm
theorem dropLast_at {α : Type} : ∀ {l : List α} {y : α}, l[l.length - 1]? = some y → l = l.dropLast ++ [y]
  | [], _, h => by simp at h
  | [a], y, h => by simp at h; simp [h]
  | a :: b :: t, y, h => by
    have := dropLast_at (l := b :: t) (y := y) (by simpa using h)
    rw [List.dropLast_cons_cons, List.cons_append, ← this]
theorem ms_pop : MS .pop rPop := by
  intro K H H0 x xs ds xs' res a vs Q hv hm h q
  match ds, vs, hv, hm, h with
  | [], [], _, hm, h =>
    simp only [muop] at hm
    cases ey : xs[xs.length - 1]? with
    | none => rw [ey] at hm; cases hm
    | some y =>
      rw [ey] at hm
      cases hm
      obtain ⟨a', ws, e, ha, hl, k⟩ := h.lupd
      cases e
      have hy := (List.getElem?_eq_some_iff.mp ey).1
      have ew : ws[ws.length - 1]? = some (ws[ws.length - 1]'(by omega)) := List.getElem?_eq_getElem (by omega)
      refine ⟨a, ws, _, rfl, rfl, ha, ew, q _ _ ?_⟩
      have ez : xs.zip ws = (xs.dropLast.zip ws.dropLast) ++ [(res, ws[ws.length - 1]'(by omega))] := by
        conv => lhs; rw [dropLast_at ey, dropLast_at ew]
        rw [List.zip_append (by simp [hl])]
        rfl
      have z := k (xs.dropLast.zip ws.dropLast) [(res, ws[ws.length - 1]'(by omega))] (by
        show (xs.zip ws ++ []).Perm _
        rw [List.append_nil, ez])
      rw [mfz (by simp [hl]), msz (by simp [hl])] at z
      exact z.perm (List.Perm.swap _ _ _)
  | _ :: _, _, _, hm, _ => cases hm
theorem erase_map {α β : Type} (f : α → β) : ∀ (l : List α) (j : Nat), (l.eraseIdx j).map f = (l.map f).eraseIdx j
  | [], _ => by simp
  | a :: t, 0 => by simp
  | a :: t, j + 1 => by simp [erase_map f t j]
theorem ms_popAt : MS .popAt rPopAt := by
  intro K H H0 x xs ds xs' res a vs Q hv hm h q
  match ds, vs, hv, hm, h with
  | [.int i], [v], _, hm, h =>
    simp only [muop] at hm
    split at hm
    · rename_i c
      have c := okB_iff.mp c
      obtain ⟨j, ej, hm⟩ := bind_some hm
      cases ey : xs[j]? with
      | none => rw [ey] at hm; cases hm
      | some y =>
        rw [ey] at hm
        cases hm
        have hv := (h.perm (List.Perm.swap _ _ _)).isInt
        subst hv
        obtain ⟨a', ws, e, ha, hl, k⟩ := h.lupd
        cases e
        have hy := (List.getElem?_eq_some_iff.mp ey).1
        have ew : ws[j]? = some (ws[j]'(by omega)) := List.getElem?_eq_getElem (by omega)
        obtain ⟨sq, _⟩ := ixN_seq (show ixN xs.length i = some j from ej)
        refine ⟨a, ws, i, j, _, rfl, rfl, ha, by omega, by omega, by rw [hl]; exact sq, ew, q _ _ ?_⟩
        have ez : (xs.zip ws)[j]? = some (res, ws[j]'(by omega)) := zip_get ey ew
        have er : xs.eraseIdx j = ((xs.zip ws).eraseIdx j).map (·.1) := by
          rw [erase_map, mfz hl]
        have es' : ws.eraseIdx j = ((xs.zip ws).eraseIdx j).map (·.2) := by
          rw [erase_map, msz hl]
        have z := k ((xs.zip ws).eraseIdx j) [(res, ws[j]'(by omega)), (.int i, .int i)] (by
          have p1 := (perm_erase ez).append_right [((D.int i, V.int i) : D × V)]
          refine p1.trans ?_
          have p2 : ((res, ws[j]'(by omega)) :: (xs.zip ws).eraseIdx j ++ [(D.int i, V.int i)]).Perm ((xs.zip ws).eraseIdx j ++ (res, ws[j]'(by omega)) :: [(D.int i, V.int i)]) := List.perm_middle.symm
          exact p2)
        rw [← er, ← es'] at z
        exact (z.perm (List.Perm.swap _ _ _)).skip2S
    · cases hm
  | [], _, _, hm, _ => cases hm
  | _ :: _ :: _, _, _, hm, _ => simp [muop] at hm
  | [.non], _, _, hm, _ => cases hm
  | [.bl _], _, _, hm, _ => cases hm
  | [.str _], _, _, hm, _ => cases hm
  | [.tup _], _, _, hm, _ => cases hm
  | [.lst _ _], _, _, hm, _ => cases hm
  | [.dic _ _ _], _, _, hm, _ => cases hm
  | [.ptr _], _, _, hm, _ => cases hm
theorem ms_clear : MS .clear rClear := by
  intro K H H0 x xs ds xs' res a vs Q hv hm h q
  match ds, vs, hv, hm, h with
  | [], [], _, hm, h =>
    cases hm
    obtain ⟨a', ws, e, ha, hl, k⟩ := h.lupd
    cases e
    refine ⟨a, ws, rfl, rfl, ha, q _ _ ?_⟩
    have z := k [] (xs.zip ws) (by simp)
    have z2 : Sep K (upd H a (.lst [])) H0 ((some (.lst true []), some (.ref a)) :: x) := by
      have pm : ((some (.lst true []), some (.ref a)) :: (es (xs.zip ws) ++ x) : List Ent).Perm (es (xs.zip ws) ++ (some (.lst true []), some (.ref a)) :: x) := List.perm_middle.symm
      exact (z.perm pm).dropA
    exact z2.nonD
  | _ :: _, _, _, hm, _ => cases hm
theorem ms_reverse : MS .reverse rReverse := by
  intro K H H0 x xs ds xs' res a vs Q hv hm h q
  match ds, vs, hv, hm, h with
  | [], [], _, hm, h =>
    cases hm
    obtain ⟨a', ws, e, ha, hl, k⟩ := h.lupd
    cases e
    refine ⟨a, ws, rfl, rfl, ha, q _ _ ?_⟩
    have z := k (xs.zip ws).reverse [] (by simpa using (List.reverse_perm (xs.zip ws)).symm)
    rw [List.map_reverse, List.map_reverse, mfz hl, msz hl] at z
    exact z.nonD
  | _ :: _, _, _, hm, _ => cases hm
def rInsert : V → List V → Hp → VK → Prop := fun x vs H Q => ∃ (l : Addr) (xs : List V) (i : Int) (y : V), x = .ref l ∧ vs = [.int i, y] ∧ H l = some (.lst xs) ∧ xs.length < sizeLine ∧ 0 ≤ i ∧ i < 2 ^ 63 ∧ Q .non (upd H l (.lst (xs.take i.toNat ++ [y] ++ xs.drop i.toNat)))
theorem ms_insert : MS .insert rInsert := by
  intro K H H0 x xs ds xs' res a vs Q hv hm h q
  match ds, vs, hv, hm, h with
  | [.int i, d], [v, v2], _, hm, h =>
    simp only [muop] at hm
    split at hm
    · rename_i c
      have c := okB_iff.mp c
      cases hm
      have hv := (h.perm (List.Perm.swap _ _ _)).isInt
      subst hv
      obtain ⟨a', ws, e, ha, hl, k⟩ := h.lupd
      cases e
      refine ⟨a, ws, i, v2, rfl, rfl, ha, by rw [hl, ← LIM_eq]; exact c.1, c.2.1, by omega, q _ _ ?_⟩
      have z := k ((xs.zip ws).take i.toNat ++ [(d, v2)] ++ (xs.zip ws).drop i.toNat) [(.int i, .int i)] (by
        show ((xs.zip ws) ++ [(.int i, .int i), (d, v2)]).Perm _
        have p1 : ((xs.zip ws) ++ [(D.int i, V.int i), (d, v2)]).Perm (((xs.zip ws) ++ [(d, v2)]) ++ [(D.int i, V.int i)]) := by
          rw [List.append_assoc]
          exact (List.Perm.swap _ _ _).append_left _
        refine p1.trans (List.Perm.append_right _ ?_)
        conv => lhs; rw [← List.take_append_drop i.toNat (xs.zip ws)]
        rw [List.append_assoc, List.append_assoc]
        exact List.perm_append_comm.append_left _)
      simp only [List.map_append, List.map_take, List.map_drop, mfz hl, msz hl, List.map_cons, List.map_nil] at z
      exact ((z.perm (List.Perm.swap _ _ _)).drop).nonD
    · cases hm
  | [], _, _, hm, _ => cases hm
  | [_], _, _, hm, _ => simp [muop] at hm
  | _ :: _ :: _ :: _, _, _, hm, _ => simp [muop] at hm
  | [.non, _], _, _, hm, _ => cases hm
  | [.bl _, _], _, _, hm, _ => cases hm
  | [.str _, _], _, _, hm, _ => cases hm
  | [.tup _, _], _, _, hm, _ => cases hm
  | [.lst _ _, _], _, _, hm, _ => cases hm
  | [.dic _ _ _, _], _, _, hm, _ => cases hm
  | [.ptr _, _], _, _, hm, _ => cases hm
/-! #### the method's rule, where its list is a name's own -/
section
variable {X : Cx} {W : WX} {e o : Expr} {es' : List Expr} {rs : SS → Option (O (List D))} {apos cpos : Pos} {name : Str} {id : String} {r : V → List V → Hp → VK → Prop} {m : MU} {i : Nat}
noncomputable def mut0 (m : MU) (i : Nat) (rs : SS → Option (O (List D))) (s : SS) : Option (O D) := match gt s i with
      | some d => (match geto [] d with
        | some _ => bnd (rs s) fun ds s => mutEnd m i [] ds s
        | none => none)
      | none => none
theorem geto_nil {d : D} {xs : List D} (h : geto [] d = some xs) : d = .lst true xs := by
  cases d <;> try (cases h; done)
  rename_i o ys
  cases o <;> cases h
  rfl
theorem tMut0 (ms : MS m r) {σ : L2.St} {H : Hp} {Q : VK} (q : tE X.K X.mg W (mut0 m i rs) σ H Q) : tBM X.K "list" r (tVar i) (tEs X.K X.mg W rs) σ H Q := by
  obtain ⟨H0, T, s, σ0, oo, k, er, p⟩ := q
  unfold mut0 at er
  cases eg : gt s i with
  | none => rw [eg] at er; cases er
  | some d =>
    rw [eg] at er
    have er : (match geto [] d with
        | some _ => bnd (rs s) fun ds s => mutEnd m i [] ds s
        | none => none) = some oo := er
    cases eo : geto [] d with
    | none => rw [eo] at er; cases er
    | some xs0 =>
      rw [eo] at er
      have er : bnd (rs s) (fun ds s => mutEnd m i [] ds s) = some oo := er
      have ed := geto_nil eo
      subst ed
      obtain ⟨v, hv, en⟩ := k.gt eg
      obtain ⟨a, vs0, rfl, ha, _⟩ := k.list (show At T σ (.pl i) v from hv) eg
      refine ⟨.ref a, hv, .inl ⟨rfl, vs0, .inl ha⟩, ?_⟩
      cases ea : rs s with
      | none => rw [ea] at er; cases er
      | some rr =>
        rw [ea] at er
        cases rr with
        | ex c s1 =>
          cases er
          exact ⟨H0, T, s, σ0, _, k, ea, p⟩
        | ok ds s1 =>
          refine ⟨H0, T, s, σ0, _, k, ea, fun H1 vs hl k1 => ?_⟩
          have er : mutEnd m i [] ds s1 = some oo := er
          unfold mutEnd at er
          obtain ⟨d2, e2, er⟩ := bind_some er
          obtain ⟨xs, e3, er⟩ := bind_some er
          cases e4 : muop m xs ds with
          | none => rw [e4] at er; cases er
          | some rr =>
            obtain ⟨xs', res⟩ := rr
            rw [e4] at er
            cases er
            have ed := geto_nil e3
            subst ed
            obtain ⟨v2, hv2, en2⟩ := k1.gt e2
            rw [hv] at hv2
            cases hv2
            have z := (Sep.focus en2).mp k1.sep
            rw [List.append_assoc] at z
            refine ms hl e4 z fun H' w z2 => p H' w ?_
            exact k1.changeZ (d' := some (.lst true xs')) (T' := (some res, some w) :: T) e2 hv (z2.perm (List.Perm.swap _ _ _))
end
end VE

namespace VE
open PySem L2 PyProof.Rows
section
variable {X : Cx} {W : WX} {e o a b : Expr} {pos p : Pos} {es' : List Expr} {rs : SS → Option (O (List D))} {os : SS → Option (O (List Op))} {oa ob : SS → Option (O Op)} {name : Str} {id : String} {r : V → List V → Hp → VK → Prop} {m : MU} {i : Nat} {path : List Int}
def tNav (K : PySem.W.Frag) (i : Nat) (path : List Int) : TE := fun σ H Q => ∃ v0 v, σ[i]? = some (some v0) ∧ Nav K H v0 path v ∧ Q v H
theorem pN_nil (h : PE X e (tVar i)) : PE X e (tNav X.K i []) := peImp h fun σ H Q q => by
  obtain ⟨v0, v, e1, e2, e3⟩ := q
  have e2 : v = v0 := e2
  subst e2
  exact ⟨v, e1, e3⟩
theorem pN_snoc {z : Int} (h1 : PE X a (tNav X.K i path)) (h2 : PE X b (tC (.int z))) (hs : notSl b = true) : PE X (.Subscript a b pos) (tNav X.K i (path ++ [z])) :=
  peImp (pe_ix (IxR.or ix_list ix_tup) h1 h2 (plain_of hs)) fun σ H Q q => by
    obtain ⟨v0, v, e1, e2, e3⟩ := q
    obtain ⟨u, c, vs, j, n1, rfl, n3, n4, n5⟩ := e2.unsnoc
    refine ⟨v0, _, e1, n1, ?_⟩
    have ea : atI vs z = some v := by
      unfold atI
      rw [n4]
      exact n5
    rcases n3 with n3 | n3
    · exact .inl ⟨c, vs, z, v, rfl, rfl, n3, ea, e3⟩
    · exact .inr ⟨c, vs, z, v, rfl, rfl, n3, ea, e3⟩
theorem pt_pt (s : SS) (i : Nat) (d d' : Option D) : pt (pt s i d) i d' = pt s i d' := by
  induction s generalizing i with
  | nil => simp [pt]
  | cons a r ih =>
    cases i with
    | zero => simp [pt]
    | succ i => simp [pt, ih]
theorem gt_pt {s : SS} {i : Nat} {d : Option D} {x : D} (h : gt s i = some x) : gt (pt s i d) i = d := by
  induction s generalizing i with
  | nil => simp [gt] at h
  | cons a r ih =>
    cases i with
    | zero => simp [pt, gt]
    | succ i => simp only [pt, gt] at h ⊢; exact ih h
theorem tMutP (ms : MS m r) {ds : List D} (hrs : ∀ s, rs s = some (.ok ds s)) {σ : L2.St} {H : Hp} {Q : VK} (q : tE X.K X.mg W (mutEnd m i path ds) σ H Q) : tBM X.K "list" r (tNav X.K i path) (tEs X.K X.mg W rs) σ H Q := by
  obtain ⟨H0, T, s, σ0, oo, k, er, p⟩ := q
  unfold mutEnd at er
  obtain ⟨d, eg, er⟩ := bind_some er
  obtain ⟨xs, e3, er⟩ := bind_some er
  cases e4 : muop m xs ds with
  | none => rw [e4] at er; cases er
  | some rr =>
    obtain ⟨xs', res⟩ := rr
    rw [e4] at er
    cases er
    obtain ⟨v0, hv, en⟩ := k.gt eg
    obtain ⟨v0', v, e0, nv, z⟩ := ((Sep.focus en).mp k.sep).open path e3
    cases e0
    have k1 : Ok X.K H0 H ((some (.lst true xs), some v) :: T) (pt s i (some (puto (.ptr v) path d))) σ0 σ := k.changeZ eg hv (z.perm (List.Perm.swap _ _ _))
    obtain ⟨a, vs0, rfl, ha, _⟩ := k1.list At.hd rfl
    refine ⟨v0, _, hv, nv, .inl ⟨rfl, vs0, .inl ha⟩, H0, _, _, σ0, _, k1, hrs _, fun H1 vs hl k2 => ?_⟩
    have z2 : Sep X.K H1 H0 ((some (.lst true xs), some (.ref a)) :: (es (ds.zip vs) ++ (T ++ ents (pt s i (some (puto (.ptr (.ref a)) path d))) σ))) := by
      refine k2.sep.perm ?_
      rw [List.append_assoc]
      exact List.perm_middle
    refine ms hl e4 z2 fun H' w z3 => p H' w ?_
    have k3 : Ok X.K H0 H' ((some res, some w) :: (some (.lst true xs'), some (.ref a)) :: T) (pt s i (some (puto (.ptr (.ref a)) path d))) σ0 σ := k2.lift fun _ => z3
    have eg2 : gt (pt s i (some (puto (.ptr (.ref a)) path d))) i = some (puto (.ptr (.ref a)) path d) := gt_pt eg
    have k4 : Ok X.K H0 H' ((some res, some w) :: T) (pt (pt s i (some (puto (.ptr (.ref a)) path d))) i (some (puto (.lst true xs') path d))) σ0 σ := by
      obtain ⟨v2, hv2, en2⟩ := k3.gt eg2
      rw [hv] at hv2
      cases hv2
      refine k3.changeZ eg2 hv ?_
      have z4 := (Sep.focus en2).mp k3.sep
      have z5 := z4.perm (((List.Perm.swap _ _ _)).trans ((List.Perm.swap _ _ _).cons _))
      have z6 := z5.perm ((List.Perm.swap _ _ _).trans ((List.Perm.swap _ _ _).cons _))
      have z7 : Sep X.K H' H0 ((some (.lst true xs'), some (.ref a)) :: (some (puto (.ptr (.ref a)) path d), some v0) :: (some res, some w) :: (T ++ (ents (pt s i (some (puto (.ptr (.ref a)) path d))) σ).eraseIdx i)) := by
        refine z4.perm ?_
        refine ((List.Perm.swap _ _ _).cons _).trans ?_
        exact List.Perm.swap _ _ _
      exact z7.close path e3
    rw [pt_pt] at k4
    exact k4
/-! #### built-in functions -/
def CS (K : PySem.W.Frag) (r : List V → Hp → VK → Prop) (f : List D → Option D) : Prop :=
  ∀ {H0 H T s σ0 σ os vs ds g Q}, Ok K H0 H T s σ0 σ → AtAll T σ os vs → views s os = some ds → f ds = some g → (∀ H' v, Ok K H0 H' ((some g, some v) :: T) s σ0 σ → Q v H') → r vs H Q
theorem cs1 {K : PySem.W.Frag} {r : List V → Hp → VK → Prop} {f : List D → Option D} (hf : ∀ ds g, f ds = some g → ∃ d, ds = [d])
    (h : ∀ {H0 H T s σ0 σ o v d g Q}, Ok K H0 H T s σ0 σ → At T σ o v → view s o = some d → f [d] = some g → (∀ H' v, Ok K H0 H' ((some g, some v) :: T) s σ0 σ → Q v H') → r [v] H Q) : CS K r f := by
  intro H0 H T s σ0 σ os vs ds g Q k a e fe q
  obtain ⟨d, rfl⟩ := hf _ _ fe
  cases os with
  | nil => cases e
  | cons o os =>
    obtain ⟨v, vs', rfl, a1, a2⟩ := a
    have e : (match view s o, views s os with | some d, some ds => some (d :: ds) | _, _ => none) = some [d] := e
    cases e1 : view s o with
    | none => rw [e1] at e; cases e
    | some d1 =>
      cases e2 : views s os with
      | none => rw [e1, e2] at e; cases e
      | some ds1 =>
        rw [e1, e2] at e
        cases e
        cases os with
        | nil =>
          have a2 : vs' = [] := a2
          subst a2
          exact h k a1 e1 fe q
        | cons o2 os =>
          have e2 : (match view s o2, views s os with | some d, some ds => some (d :: ds) | _, _ => none) = some [] := e2
          cases e3 : view s o2 <;> cases e4 : views s os <;> rw [e3, e4] at e2 <;> cases e2
theorem cs2 {K : PySem.W.Frag} {r : List V → Hp → VK → Prop} {f : List D → Option D} (hf : ∀ ds g, f ds = some g → ∃ d e, ds = [d, e])
    (h : ∀ {H0 H T s σ0 σ o o2 v v2 d d2 g Q}, Ok K H0 H T s σ0 σ → At T σ o v → At T σ o2 v2 → view s o = some d → view s o2 = some d2 → f [d, d2] = some g → (∀ H' v, Ok K H0 H' ((some g, some v) :: T) s σ0 σ → Q v H') → r [v, v2] H Q) : CS K r f := by
  intro H0 H T s σ0 σ os vs ds g Q k a e fe q
  obtain ⟨d, d2, rfl⟩ := hf _ _ fe
  match os, a, e with
  | [], _, e => cases e
  | [o], _, e =>
    have e : (match view s o, views s [] with | some d, some ds => some (d :: ds) | _, _ => none) = some [d, d2] := e
    cases e1 : view s o <;> rw [e1] at e <;> cases e
  | o :: o2 :: o3 :: os, _, e =>
    have e : (match view s o, (match view s o2, (match view s o3, views s os with | some d, some ds => some (d :: ds) | _, _ => none) with | some d, some ds => some (d :: ds) | _, _ => none) with | some d, some ds => some (d :: ds) | _, _ => none) = some [d, d2] := e
    cases e1 : view s o <;> cases e2 : view s o2 <;> cases e3 : view s o3 <;> cases e4 : views s os <;> rw [e1, e2, e3, e4] at e <;> cases e
  | [o, o2], a, e =>
    obtain ⟨v, _, rfl, a1, v2, _, rfl, a2, a3⟩ := a
    have a3 : _ = [] := a3
    subst a3
    have e : (match view s o, (match view s o2, some [] with | some d, some ds => some (d :: ds) | _, _ => none) with | some d, some ds => some (d :: ds) | _, _ => none) = some [d, d2] := e
    cases e1 : view s o with
    | none => rw [e1] at e; cases e
    | some x =>
      cases e2 : view s o2 with
      | none => rw [e1, e2] at e; cases e
      | some y =>
        rw [e1, e2] at e
        cases e
        exact h k a1 a2 e1 e2 fe q
theorem callOr {f : Value} {r r' : List V → Hp → VK → Prop} (h : CallR X f r) (h' : CallR X f r') : CallR X f (fun xs H Q => r xs H Q ∨ r' xs H Q) := by
  intro pins s σ H xs us Q I rr q
  rcases q with q | q
  · exact h pins s σ H xs us Q I rr q
  · exact h' pins s σ H xs us Q I rr q
def rLenA (K : PySem.W.Frag) : List V → Hp → VK → Prop := fun xs H Q => (∃ p ys, xs = [.ref p] ∧ (SqL K H p ys ∨ SqT K H p ys) ∧ Q (.int ys.length) H) ∨ (∃ z, xs = [.str z] ∧ z.length ≤ sizeLine ∧ Q (.int z.length) H)
theorem cr_lenA : CallR X (.builtin "len") (rLenA X.K) := callOr call_len_seq call_len_str
theorem prim_one {p : PR} (hp : p ≠ .min2 ∧ p ≠ .max2) : ∀ ds g, prim p ds = some g → ∃ d, ds = [d] := by
  intro ds g h
  match ds, h with
  | [], h => cases p <;> cases h
  | [d], _ => exact ⟨d, rfl⟩
  | a :: b :: t, h =>
    cases p <;> first | exact absurd rfl hp.1 | exact absurd rfl hp.2 | (simp [prim] at h)
theorem prim_two {p : PR} (hp : p = .min2 ∨ p = .max2) : ∀ ds g, prim p ds = some g → ∃ d e, ds = [d, e] := by
  intro ds g h
  match ds, h with
  | [], h => rcases hp with rfl | rfl <;> cases h
  | [d], h => rcases hp with rfl | rfl <;> cases d <;> cases h
  | [a, b], _ => exact ⟨a, b, rfl⟩
  | a :: b :: c :: t, h => rcases hp with rfl | rfl <;> simp [prim] at h
theorem cs_len : CS X.K (rLenA X.K) (prim .len) := cs1 (prim_one (p := .len) (by decide)) fun {H0 H T s σ0 σ o v d g Q} k a e f q => by
  cases d <;> simp only [prim] at f <;> try (cases f; done)
  · split at f
    · rename_i c
      cases f
      exact .inr ⟨_, by rw [k.isStr a e], by rw [← LIM_eq]; exact c, q _ _ k.int⟩
    · cases f
  · cases f
    obtain ⟨p, vs, rfl, r, l⟩ := k.tuple a e
    refine .inl ⟨p, vs, rfl, .inr r, ?_⟩
    rw [l]
    exact q _ _ k.int
  · cases f
    obtain ⟨p, vs, rfl, r, l⟩ := k.list a e
    refine .inl ⟨p, vs, rfl, .inl (.inl r), ?_⟩
    rw [l]
    exact q _ _ k.int
def rP_abs (K : PySem.W.Frag) : List V → Hp → VK → Prop := fun xs H Q => ∃ i, xs = [.int i] ∧ Q (.int (if i < 0 then -i else i)) H
theorem cs_abs : CS X.K (rP_abs X.K) (prim .abs) := cs1 (prim_one (p := .abs) (by decide)) fun {H0 H T s σ0 σ o v d g Q} k a e f q => by
  cases d <;> simp only [prim] at f <;> try (cases f; done)
  cases f
  exact ⟨_, by rw [k.isInt a e], q _ _ k.int⟩
def rP_int (K : PySem.W.Frag) : List V → Hp → VK → Prop := fun xs H Q => (∃ i, xs = [.int i] ∧ Q (.int i) H) ∨ ∃ k, xs = [.bl k] ∧ Q (.int (if k then 1 else 0)) H
theorem cs_int : CS X.K (rP_int X.K) (prim .int) := cs1 (prim_one (p := .int) (by decide)) fun {H0 H T s σ0 σ o v d g Q} k a e f q => by
  cases d <;> simp only [prim] at f <;> try (cases f; done)
  · cases f
    exact .inr ⟨_, by rw [k.isBl a e], q _ _ k.int⟩
  · cases f
    exact .inl ⟨_, by rw [k.isInt a e], q _ _ k.int⟩
def rP_min2 (K : PySem.W.Frag) : List V → Hp → VK → Prop := fun xs H Q => ∃ i j, xs = [.int i, .int j] ∧ Q (.int (if j < i then j else i)) H
theorem cs_min2 : CS X.K (rP_min2 X.K) (prim .min2) := cs2 (prim_two (p := .min2) (by decide)) fun {H0 H T s σ0 σ o o2 v v2 d d2 g Q} k a a2 e e2 f q => by
  cases d <;> cases d2 <;> simp only [prim] at f <;> try (cases f; done)
  cases f
  exact ⟨_, _, by rw [k.isInt a e, k.isInt a2 e2], q _ _ k.int⟩
def rP_max2 (K : PySem.W.Frag) : List V → Hp → VK → Prop := fun xs H Q => ∃ i j, xs = [.int i, .int j] ∧ Q (.int (if j > i then j else i)) H
theorem cs_max2 : CS X.K (rP_max2 X.K) (prim .max2) := cs2 (prim_two (p := .max2) (by decide)) fun {H0 H T s σ0 σ o o2 v v2 d d2 g Q} k a a2 e e2 f q => by
  cases d <;> cases d2 <;> simp only [prim] at f <;> try (cases f; done)
  cases f
  exact ⟨_, _, by rw [k.isInt a e, k.isInt a2 e2], q _ _ k.int⟩
def rP_list (K : PySem.W.Frag) : List V → Hp → VK → Prop := fun xs H Q => ∃ p ys, xs = [.ref p] ∧ (SqL K H p ys ∨ SqT K H p ys) ∧ ∀ l, H l = none → Q (.ref l) (upd H l (.lst ys))
theorem cs_list : CS X.K (rP_list X.K) (prim .list) := cs1 (prim_one (p := .list) (by decide)) fun {H0 H T s σ0 σ o v d g Q} k a e f q => by
  cases d <;> simp only [prim] at f <;> try (cases f; done)
  · split at f
    · rename_i c
      cases f
      obtain ⟨p, vs, rfl, r, l, k1⟩ := k.itemsT a e c
      refine ⟨p, vs, rfl, .inr r, fun l' hl' => q _ _ ?_⟩
      have z := k1.newL hl'
      rw [mfz l, msz l] at z
      exact z
    · cases f
  · split at f
    · rename_i c
      cases f
      obtain ⟨p, vs, rfl, r, l, k1⟩ := k.items a e c
      refine ⟨p, vs, rfl, .inl (.inl r), fun l' hl' => q _ _ ?_⟩
      have z := k1.newL hl'
      rw [mfz l, msz l] at z
      exact z
    · cases f
def rP_tuple (K : PySem.W.Frag) : List V → Hp → VK → Prop := fun xs H Q => ∃ p ys, xs = [.ref p] ∧ ((SqL K H p ys ∧ ∀ l, H l = none → Q (.ref l) (upd H l (.tup ys))) ∨ (SqT K H p ys ∧ Q (.ref p) H))
theorem cs_tuple : CS X.K (rP_tuple X.K) (prim .tuple) := cs1 (prim_one (p := .tuple) (by decide)) fun {H0 H T s σ0 σ o v d g Q} k a e f q => by
  cases d <;> simp only [prim] at f <;> try (cases f; done)
  · split at f
    · rename_i c
      cases f
      obtain ⟨p, vs, rfl, r, l, k1⟩ := k.itemsT a e c
      refine ⟨p, vs, rfl, .inr ⟨r, q _ _ ?_⟩⟩
      obtain ⟨R, pm⟩ := k.at a e
      exact k.lift fun z => ((z.perm pm).copy (by simpa [fz] using c)).perm (pm.symm.cons _)
    · cases f
  · split at f
    · rename_i c
      cases f
      obtain ⟨p, vs, rfl, r, l, k1⟩ := k.items a e c
      refine ⟨p, vs, rfl, .inl ⟨.inl r, fun l' hl' => q _ _ ?_⟩⟩
      have z := k1.newT hl'
      rw [mfz l, msz l] at z
      exact z
    · cases f
theorem intsD_eq : ∀ {xs : List D} {ns : List Int}, intsD xs = some ns → xs = ns.map D.int
  | [], ns, h => by cases h; rfl
  | x :: xs, ns, h => by
    cases x <;> simp only [intsD] at h <;> try (cases h; done)
    cases e : intsD xs with
    | none => rw [e] at h; cases h
    | some m =>
      rw [e] at h
      cases h
      rw [intsD_eq e]
      rfl
theorem boolsD_eq : ∀ {xs : List D} {ns : List Bool}, boolsD xs = some ns → xs = ns.map D.bl
  | [], ns, h => by cases h; rfl
  | x :: xs, ns, h => by
    cases x <;> simp only [boolsD] at h <;> try (cases h; done)
    cases e : boolsD xs with
    | none => rw [e] at h; cases h
    | some m =>
      rw [e] at h
      cases h
      rw [boolsD_eq e]
      rfl
theorem fzs_int (ns : List Int) : fzs (ns.map D.int) = true := fzs_of fun d h => by
  obtain ⟨i, _, rfl⟩ := List.mem_map.mp h
  rfl
theorem fzs_bl (ns : List Bool) : fzs (ns.map D.bl) = true := fzs_of fun d h => by
  obtain ⟨i, _, rfl⟩ := List.mem_map.mp h
  rfl
theorem Reps.ints {K : PySem.W.Frag} {Hs H : Hp} : ∀ {ns : List Int} {vs : List V} {fp : List Addr}, Reps K Hs H (ns.map D.int) vs fp → vs = ns.map V.int
  | [], _, _, h => h.1
  | n :: ns, _, _, h => by
    obtain ⟨v, vs', f1, f2, rfl, rfl, h1, h2⟩ := h
    obtain ⟨rfl, _⟩ := h1
    rw [Reps.ints h2]
    rfl
theorem Reps.bls {K : PySem.W.Frag} {Hs H : Hp} : ∀ {ns : List Bool} {vs : List V} {fp : List Addr}, Reps K Hs H (ns.map D.bl) vs fp → vs = ns.map V.bl
  | [], _, _, h => h.1
  | n :: ns, _, _, h => by
    obtain ⟨v, vs', f1, f2, rfl, rfl, h1, h2⟩ := h
    obtain ⟨rfl, _⟩ := h1
    rw [Reps.bls h2]
    rfl
theorem Ok.intList {K : PySem.W.Frag} {H0 H : Hp} {T : List Ent} {s : SS} {σ0 σ : L2.St} (k : Ok K H0 H T s σ0 σ) {o : Op} {v : V} {bb : Bool} {ns : List Int} (a : At T σ o v) (e : view s o = some (.lst bb (ns.map D.int))) : ∃ p, v = .ref p ∧ Rd H p (.lst (ns.map V.int)) := by
  obtain ⟨Hs, f, sm, r⟩ := k.rep a e
  cases bb with
  | true =>
    obtain ⟨p, vs, f2, rfl, rfl, h, r⟩ := r
    exact ⟨p, rfl, by rw [← r.ints]; exact Rd.of h⟩
  | false =>
    obtain ⟨p, vs, rfl, rfl, h, r⟩ := r
    exact ⟨p, rfl, by rw [← r.ints]; exact rd_same sm h⟩
theorem Ok.blList {K : PySem.W.Frag} {H0 H : Hp} {T : List Ent} {s : SS} {σ0 σ : L2.St} (k : Ok K H0 H T s σ0 σ) {o : Op} {v : V} {bb : Bool} {ns : List Bool} (a : At T σ o v) (e : view s o = some (.lst bb (ns.map D.bl))) : ∃ p, v = .ref p ∧ Rd H p (.lst (ns.map V.bl)) := by
  obtain ⟨Hs, f, sm, r⟩ := k.rep a e
  cases bb with
  | true =>
    obtain ⟨p, vs, f2, rfl, rfl, h, r⟩ := r
    exact ⟨p, rfl, by rw [← r.bls]; exact Rd.of h⟩
  | false =>
    obtain ⟨p, vs, rfl, rfl, h, r⟩ := r
    exact ⟨p, rfl, by rw [← r.bls]; exact rd_same sm h⟩
theorem map_some' {α β : Type} {x : Option α} {f : α → β} {y : β} (h : x.map f = some y) : ∃ a, x = some a ∧ f a = y := by
  cases x with
  | none => cases h
  | some a => exact ⟨a, rfl, Option.some.inj h⟩
theorem insI_perm (x : Int) : ∀ l : List Int, (insI x l).Perm (x :: l)
  | [] => .refl _
  | y :: r => by
    unfold insI
    split
    · exact .refl _
    · exact ((insI_perm x r).cons y).trans (.swap _ _ _)
theorem srtI_perm : ∀ l : List Int, (srtI l).Perm l
  | [] => .refl _
  | x :: r => (insI_perm x (srtI r)).trans ((srtI_perm r).cons x)
theorem insI_srt (x : Int) : ∀ l : List Int, l.Pairwise (· ≤ ·) → (insI x l).Pairwise (· ≤ ·)
  | [], _ => by simp [insI]
  | y :: r, h => by
    unfold insI
    obtain ⟨h1, h2⟩ := List.pairwise_cons.mp h
    split
    · rename_i c
      refine List.pairwise_cons.mpr ⟨fun z hz => ?_, h⟩
      rcases List.mem_cons.mp hz with rfl | hz
      · exact c
      · exact Int.le_trans c (h1 z hz)
    · rename_i c
      refine List.pairwise_cons.mpr ⟨fun z hz => ?_, insI_srt x r h2⟩
      rcases List.mem_cons.mp ((insI_perm x r).mem_iff.mp hz) with rfl | hz
      · omega
      · exact h1 z hz
theorem srtI_srt : ∀ l : List Int, (srtI l).Pairwise (· ≤ ·)
  | [] => .nil
  | x :: r => insI_srt x _ (srtI_srt r)
theorem srt_uniq : ∀ {l m : List Int}, l.Perm m → l.Pairwise (· ≤ ·) → m.Pairwise (· ≤ ·) → l = m
  | [], m, p, _, _ => (List.Perm.eq_nil p.symm).symm
  | x :: l, [], p, _, _ => absurd p.length_eq (by simp)
  | x :: l, y :: m, p, h1, h2 => by
    obtain ⟨a1, a2⟩ := List.pairwise_cons.mp h1
    obtain ⟨b1, b2⟩ := List.pairwise_cons.mp h2
    have e : x = y := by
      have c1 : x ≤ y := by
        rcases List.mem_cons.mp (p.mem_iff.mpr (List.mem_cons_self (a := y) (l := m))) with e | e
        · omega
        · exact a1 y e
      have c2 : y ≤ x := by
        rcases List.mem_cons.mp (p.mem_iff.mp (List.mem_cons_self (a := x) (l := l))) with e | e
        · omega
        · exact b1 x e
      omega
    subst e
    rw [srt_uniq p.cons_inv a2 b2]
theorem Ok.intEs {K : PySem.W.Frag} {H0 H : Hp} {T : List Ent} {s : SS} {σ0 σ : L2.St} (k : Ok K H0 H T s σ0 σ) : ∀ ns : List Int, Ok K H0 H (es (ns.map fun i => (D.int i, V.int i)) ++ T) s σ0 σ
  | [] => k
  | n :: ns => (Ok.intEs k ns).int
def rSortedD (K : PySem.W.Frag) : List V → Hp → VK → Prop := fun vs H Q => ∃ (a : Addr) (dv : List (D × V)), vs = [.ref a] ∧ SqL K H a (dv.map (·.2)) ∧ (∀ p ∈ dv, Dp K H p.2 (toPy p.1)) ∧ PySem.W.AllAlike (dv.map fun p => toPy p.1) ∧ PySem.W.Sortable (dv.map fun p => toPy p.1) ∧
  (∀ p ∈ dv, (toPy p.1).depth ≤ 60) ∧ dv.length ≤ sizeLine ∧ ∀ p, H p = none → Q (.ref p) (upd H p (.lst ((dv.mergeSort (PySem.W.dataLe false fun p => toPy p.1)).map (·.2))))
theorem each_rel : ∀ {dv : List (D × V)} {its : List Value}, Vals (dv.map (·.2)) its → PySem.W.EachIs (fun (v : Value) (b : D × V) => RelV b.2 v) its dv
  | [], [], _ => .nil
  | [], _ :: _, h => by cases h
  | _ :: _, [], h => by cases h
  | p :: dv, u :: its, h => by
    cases h with
    | cons h1 h2 => exact .cons h1 (each_rel h2)
theorem each_dp {pins : List (Addr × Obj)} {σ : L2.St} {H : Hp} {s : Shared} (I : Inv X pins σ H s) : ∀ {dv : List (D × V)} {its : List Value}, Vals (dv.map (·.2)) its → (∀ p ∈ dv, Dp X.K H p.2 (toPy p.1)) → PySem.W.EachIs (fun (v : Value) (b : D × V) => ∃ as, Reads s.heap v (toPy b.1) as) its dv
  | [], [], _, _ => .nil
  | [], _ :: _, h, _ => by cases h
  | _ :: _, [], h, _ => by cases h
  | p :: dv, u :: its, h, k => by
    cases h with
    | cons h1 h2 => exact .cons (Dp.reads I _ _ _ (k p List.mem_cons_self) h1) (each_dp I h2 fun q hq => k q (List.mem_cons_of_mem _ hq))
theorem rel_each : ∀ {dv : List (D × V)} {its : List Value}, PySem.W.EachIs (fun (v : Value) (b : D × V) => RelV b.2 v) its dv → Vals (dv.map (·.2)) its
  | _, _, .nil => .nil
  | _, _, .cons h1 h2 => .cons h1 (rel_each h2)
theorem cr_sortedD (hu : X.A.units + 65 < cLine) : CallR X (.builtin "sorted") (rSortedD X.K) := by
  intro pins s σ H vs us Q I r h
  obtain ⟨a, dv, rfl, hs, hd, h1, h2, h3, hz, q⟩ := h
  obtain ⟨its, rv, hl, _⟩ := I.list hs
  obtain ⟨u, rfl, ru⟩ := vals1 r
  obtain rfl : u = Value.ref a := ru
  refine PySem.W.sorted_data (enc := fun p : D × V => toPy p.1) hl.isList (each_rel rv) (each_dp I rv hd) h1 h2 hz (fun b hb => by have := h3 b hb; omega) fun out ho hE => ?_
  obtain ⟨n, hn⟩ := sortedAll_at s.heap its out.toArray
  have rv2 := rel_each hE
  refine ⟨.ref (s.heap.objs.size + 1), upd H (s.heap.objs.size + 1) (.lst ((dv.mergeSort (PySem.W.dataLe false fun p => toPy p.1)).map (·.2))), I.laid (t' := s.toks) (fun b o e => sortedAll_old e) (Nat.le_succ _) ⟨?_, out, n, rv2, hn⟩, rfl, q _ (I.hok.fresh (Nat.le_succ _))⟩
  rw [List.length_map, List.length_mergeSort]
  exact hz
def rSortedA (K : PySem.W.Frag) : List V → Hp → VK → Prop := fun xs H Q => rSortedI K xs H Q ∨ rSortedD K xs H Q
theorem cr_sortedA (hu : X.A.units + 65 < cLine) : CallR X (.builtin "sorted") (rSortedA X.K) := callOr cr_sortedI (cr_sortedD hu)
theorem nds_mem : ∀ {xs : List D} {d : D}, nds xs = true → d ∈ xs → nd d = true
  | [], _, _, h => by cases h
  | x :: xs, d, h, hm => by
    simp only [nds, Bool.and_eq_true] at h
    rcases List.mem_cons.mp hm with rfl | hm
    · exact h.1
    · exact nds_mem h.2 hm
theorem cs_sorted : CS X.K (rSortedA X.K) (prim .sorted) := cs1 (prim_one (p := .sorted) (by decide)) fun {H0 H T s σ0 σ o v d g Q} k a e f q => by
  cases d <;> simp only [prim] at f <;> try (cases f; done)
  rename_i bb xs
  cases en : intsD xs with
  | some ns =>
    rw [en] at f
    cases f
    rw [intsD_eq en] at e
    obtain ⟨p, rfl, r⟩ := k.intList a e
    refine .inl ⟨p, ns, rfl, .inl r, fun ns' l p1 p2 hl => q _ _ ?_⟩
    have eq : ns' = srtI ns := srt_uniq (p1.trans (srtI_perm ns).symm) p2 (srtI_srt ns)
    subst eq
    have z := (k.intEs (srtI ns)).newL hl
    rw [List.map_map, List.map_map] at z
    exact z
  | none =>
    rw [en] at f
    have f : (if fzs xs && okB (srtOk xs) then some (D.lst true (srtD xs)) else none) = some g := f
    split at f
    · rename_i c
      cases f
      simp only [Bool.and_eq_true, okB_iff] at c
      obtain ⟨fx, c1, c2, c3, c4, c5⟩ := c
      obtain ⟨p, vs, rfl, r, l, k1⟩ := k.items a e fx
      have hm : ((xs.zip vs).map fun p => toPy p.1) = xs.map toPy := by
        conv => rhs; rw [← mfz l]
        rw [List.map_map]
        rfl
      refine .inr ⟨p, xs.zip vs, rfl, by rw [msz l]; exact .inl r, fun w hw => ?_, by rw [hm]; exact c1, by rw [hm]; exact c2, fun w hw => c4 _ (List.of_mem_zip (a := w.1) (b := w.2) hw).1, by simp [l]; exact c5, fun z hz => q _ _ ?_⟩
      · obtain ⟨i, hi⟩ := List.getElem?_of_mem hw
        have k2 : Ok _ _ _ ((some w.1, some w.2) :: T) s σ0 σ := k1.lift fun y => Sep.pick (i := i) (d := w.1) (v := w.2) (by rw [List.append_assoc] at y; exact y) hi
        exact k2.dp At.hd rfl (nds_mem c3 (List.of_mem_zip (a := w.1) (b := w.2) hw).1)
      · have k2 := (k1.choose (dw := (xs.zip vs).mergeSort (PySem.W.dataLe false fun p => toPy p.1)) (zip_fz fx) fun w hw => List.mem_mergeSort.mp hw).newL hz
        have e1 : ((xs.zip vs).mergeSort (PySem.W.dataLe false fun p => toPy p.1)).map (·.1) = srtD xs := by
          exact (List.map_mergeSort (r := PySem.W.dataLe false fun p : D × V => toPy p.1) (s := PySem.W.dataLe false toPy) (f := fun p : D × V => p.1) (fun _ _ _ _ => rfl)).trans (by rw [mfz l]; rfl)
        rw [e1] at k2
        exact k2
    · cases f
theorem cs_sum (hc : X.calm = true) : CS X.K (rSum X.K) (prim .sum) := cs1 (prim_one (p := .sum) (by decide)) fun {H0 H T s σ0 σ o v d g Q} k a e f q => by
  cases d <;> simp only [prim] at f <;> try (cases f; done)
  obtain ⟨ns, en, rfl⟩ := map_some' f
  rw [intsD_eq en] at e
  obtain ⟨p, rfl, r⟩ := k.intList a e
  exact ⟨p, ns, rfl, .inl r, q _ _ k.int⟩
theorem cs_all : CS X.K (rAll X.K) (prim .all) := cs1 (prim_one (p := .all) (by decide)) fun {H0 H T s σ0 σ o v d g Q} k a e f q => by
  cases d <;> simp only [prim] at f <;> try (cases f; done)
  obtain ⟨ns, en, rfl⟩ := map_some' f
  rw [boolsD_eq en] at e
  obtain ⟨p, rfl, r⟩ := k.blList a e
  exact ⟨p, ns, rfl, .inl r, q _ _ k.bl⟩
theorem cs_any : CS X.K (rAny X.K) (prim .any) := cs1 (prim_one (p := .any) (by decide)) fun {H0 H T s σ0 σ o v d g Q} k a e f q => by
  cases d <;> simp only [prim] at f <;> try (cases f; done)
  obtain ⟨ns, en, rfl⟩ := map_some' f
  rw [boolsD_eq en] at e
  obtain ⟨p, rfl, r⟩ := k.blList a e
  exact ⟨p, ns, rfl, .inl r, q _ _ k.bl⟩
theorem mx1_spec : ∀ (r : List Int) (m : Int), (mx1 m r = m ∨ mx1 m r ∈ r) ∧ m ≤ mx1 m r ∧ ∀ y ∈ r, y ≤ mx1 m r
  | [], m => ⟨.inl rfl, Int.le_refl _, fun y h => by cases h⟩
  | x :: r, m => by
    obtain ⟨h1, h2, h3⟩ := mx1_spec r (if x > m then x else m)
    have hm : m ≤ (if x > m then x else m) := by split <;> omega
    have hx : x ≤ (if x > m then x else m) := by split <;> omega
    show (mx1 (if x > m then x else m) r = m ∨ mx1 (if x > m then x else m) r ∈ x :: r) ∧ m ≤ mx1 (if x > m then x else m) r ∧ ∀ y ∈ x :: r, y ≤ mx1 (if x > m then x else m) r
    refine ⟨?_, by omega, fun y hy => ?_⟩
    · rcases h1 with h1 | h1
      · rw [h1]
        split
        · exact .inr List.mem_cons_self
        · exact .inl rfl
      · exact .inr (List.mem_cons_of_mem _ h1)
    · rcases List.mem_cons.mp hy with rfl | hy
      · omega
      · exact h3 y hy
theorem mn1_spec : ∀ (r : List Int) (m : Int), (mn1 m r = m ∨ mn1 m r ∈ r) ∧ mn1 m r ≤ m ∧ ∀ y ∈ r, mn1 m r ≤ y
  | [], m => ⟨.inl rfl, Int.le_refl _, fun y h => by cases h⟩
  | x :: r, m => by
    obtain ⟨h1, h2, h3⟩ := mn1_spec r (if x < m then x else m)
    have hm : (if x < m then x else m) ≤ m := by split <;> omega
    have hx : (if x < m then x else m) ≤ x := by split <;> omega
    show (mn1 (if x < m then x else m) r = m ∨ mn1 (if x < m then x else m) r ∈ x :: r) ∧ mn1 (if x < m then x else m) r ≤ m ∧ ∀ y ∈ x :: r, mn1 (if x < m then x else m) r ≤ y
    refine ⟨?_, by omega, fun y hy => ?_⟩
    · rcases h1 with h1 | h1
      · rw [h1]
        split
        · exact .inr List.mem_cons_self
        · exact .inl rfl
      · exact .inr (List.mem_cons_of_mem _ h1)
    · rcases List.mem_cons.mp hy with rfl | hy
      · omega
      · exact h3 y hy
theorem cs_max1 : CS X.K (rMax X.K) (prim .max1) := cs1 (prim_one (p := .max1) (by decide)) fun {H0 H T s σ0 σ o v d g Q} k a e f q => by
  cases d <;> simp only [prim] at f <;> try (cases f; done)
  obtain ⟨ns, en, f⟩ := bind_some f
  cases ns with
  | nil => cases f
  | cons x r =>
    cases f
    rw [intsD_eq en] at e
    obtain ⟨p, rfl, rr⟩ := k.intList a e
    refine ⟨p, x :: r, rfl, .inl rr, by simp, fun m h1 h2 => ?_⟩
    obtain ⟨s1, s2, s3⟩ := mx1_spec r x
    have em : m = mx1 x r := by
      have c1 : mx1 x r ≤ m := by
        rcases s1 with s1 | s1
        · rw [s1]; exact h2 x List.mem_cons_self
        · exact h2 _ (List.mem_cons_of_mem _ s1)
      have c2 : m ≤ mx1 x r := by
        rcases List.mem_cons.mp h1 with rfl | h1
        · exact s2
        · exact s3 m h1
      omega
    subst em
    exact q _ _ k.int
theorem cs_min1 : CS X.K (rMin X.K) (prim .min1) := cs1 (prim_one (p := .min1) (by decide)) fun {H0 H T s σ0 σ o v d g Q} k a e f q => by
  cases d <;> simp only [prim] at f <;> try (cases f; done)
  obtain ⟨ns, en, f⟩ := bind_some f
  cases ns with
  | nil => cases f
  | cons x r =>
    cases f
    rw [intsD_eq en] at e
    obtain ⟨p, rfl, rr⟩ := k.intList a e
    refine ⟨p, x :: r, rfl, .inl rr, by simp, fun m h1 h2 => ?_⟩
    obtain ⟨s1, s2, s3⟩ := mn1_spec r x
    have em : m = mn1 x r := by
      have c1 : m ≤ mn1 x r := by
        rcases s1 with s1 | s1
        · rw [s1]; exact h2 x List.mem_cons_self
        · exact h2 _ (List.mem_cons_of_mem _ s1)
      have c2 : mn1 x r ≤ m := by
        rcases List.mem_cons.mp h1 with rfl | h1
        · exact s2
        · exact s3 m h1
      omega
    subst em
    exact q _ _ k.int
/-- a call of a built-in -/
theorem tPrim {r : List V → Hp → VK → Prop} {f : List D → Option D} (cs : CS X.K r f) {σ : L2.St} {H : Hp} {Q : VK}
    (q : tE X.K X.mg W (fun s => bnd (os s) fun ops s => (match views s ops with | some ds => up (f ds) s | none => none)) σ H Q) : tCB r (tOs X.K X.mg W os) σ H Q := by
  obtain ⟨H0, T, s, σ0, o, k, er, p⟩ := q
  have er : bnd (os s) (fun ops s => (match views s ops with | some ds => up (f ds) s | none => none)) = some o := er
  cases ea : os s with
  | none => rw [ea] at er; cases er
  | some rr =>
    rw [ea] at er
    cases rr with
    | ex c s1 =>
      cases er
      exact ⟨H0, T, s, σ0, _, k, ea, p⟩
    | ok ops s1 =>
      have er : (match views s1 ops with | some ds => up (f ds) s1 | none => none) = some o := er
      cases ev : views s1 ops with
      | none => rw [ev] at er; cases er
      | some ds =>
        rw [ev] at er
        have er : up (f ds) s1 = some o := er
        cases ef : f ds with
        | none => rw [ef] at er; cases er
        | some g =>
          rw [ef] at er
          cases er
          exact ⟨H0, T, s, σ0, _, k, ea, fun H1 vs hl a1 k1 => cs k1 a1 ev ef fun H' v k2 => p H' v (k2.sub (X := [(some g, some v)]))⟩
theorem pE_callB {r : List V → Hp → VK → Prop} {f : List D → Option D} {x : Str} (hc : CallR X (.builtin id) r) (cs : CS X.K r f) (hg : Gl X x) (hm : X.mg x = none) (hv : bootBuiltins x = some (.builtin id)) (ha : PA X (e :: es') (tOs X.K X.mg W os)) (hn : x ≠ "__name__") (hdb : (x == ("__debug__" : Str)) = false)
    (he : starEach (e :: es') X.env = (false, eval e X.env) :: starEach es' X.env) (hpl : (backTo pos (starEach es' X.env)).any (·.1) = false) :
    PE X (.Call (.Name x p) (e :: es') [] pos) (tE X.K X.mg W fun s => bnd (os s) fun ops s => (match views s ops with | some ds => up (f ds) s | none => none)) :=
  peImp (pe_callB hc hg hm hv ha hn hdb he hpl) fun σ H Q q => tPrim cs q
theorem pE_callT {r : List V → Hp → VK → Prop} {f : List D → Option D} {x : Str} (hc : CallR X (.type id) r) (cs : CS X.K r f) (hg : Gl X x) (hm : X.mg x = none) (hv : bootBuiltins x = some (.type id)) (ha : PA X (e :: es') (tOs X.K X.mg W os)) (hn : x ≠ "__name__") (hdb : (x == ("__debug__" : Str)) = false)
    (he : starEach (e :: es') X.env = (false, eval e X.env) :: starEach es' X.env) (hpl : (backTo pos (starEach es' X.env)).any (·.1) = false) :
    PE X (.Call (.Name x p) (e :: es') [] pos) (tE X.K X.mg W fun s => bnd (os s) fun ops s => (match views s ops with | some ds => up (f ds) s | none => none)) :=
  peImp (pe_callTy hc hg hm hv ha hn hdb he hpl) fun σ H Q q => tPrim cs q
end
end VE

namespace VE
open PySem L2 PyProof.Rows
def tyN : D → Option String
  | .non => some "NoneType" | .bl _ => some "bool" | .int _ => some "int" | .str _ => some "str" | .tup _ => some "tuple" | .lst _ _ => some "list" | .dic _ _ _ => some "dict" | .ptr _ => none
def TY.nm : TY → String
  | .int => "int" | .bool => "bool" | .tuple => "tuple" | .list => "list" | .str => "str"
theorem tyX_of {K : PySem.W.Frag} {Hs H : Hp} {d : D} {v : V} {f : List Addr} {n : String} (r : Rep K Hs H d v f) (sm : Same Hs H) (e : tyN d = some n) : TyX K H v (.type n) := by
  cases d with
  | non => cases e; obtain ⟨rfl, _⟩ := r; exact .base .non
  | bl b => cases e; obtain ⟨rfl, _⟩ := r; exact .base (.bl b)
  | int b => cases e; obtain ⟨rfl, _⟩ := r; exact .base (.int b)
  | str b => cases e; obtain ⟨rfl, _⟩ := r; exact .base (.str b)
  | ptr _ => cases e
  | tup xs =>
    cases e
    obtain ⟨a, vs, rfl, h, _⟩ := r
    rcases seqT_same sm h with (h | ⟨o, h⟩) | ⟨o, its, n, hk, hc, _⟩
    · exact .base (.tup h)
    · exact .fTuple h
    · exact .kTuple hk hc
  | lst b xs =>
    cases e
    cases b with
    | true =>
      obtain ⟨a, vs, f2, rfl, rfl, h, _⟩ := r
      exact .base (.lst h)
    | false =>
      obtain ⟨a, vs, rfl, rfl, h, _⟩ := r
      rcases rd_same sm h with h | ⟨o, h⟩
      · exact .base (.lst h)
      · exact .base (.frz h)
  | dic b ks xs =>
    cases e
    cases b with
    | true =>
      obtain ⟨a, vs, f2, rfl, rfl, h, _⟩ := r
      exact .base (.dK h)
    | false =>
      obtain ⟨a, vs, rfl, rfl, h, _⟩ := r
      exact .base (.dK (sm _ _ h))
theorem ty_kit {d : D} {t : TY} {n : String} (e : tyN d = some n) : kitB n t.nm = some (tyop d t) := by
  cases d <;> cases e <;> cases t <;> first | (show kitB _ _ = some true; decide +kernel) | (show kitB _ _ = some false; decide +kernel)
section
variable {X : Cx} {W : WX} {e a b : Expr} {pos p p2 : Pos} {oa ob : SS → Option (O Op)} {os : SS → Option (O (List Op))} {es' : List Expr}
theorem pE_isi {t : TY} (hg : Gl X "isinstance") (hm : X.mg "isinstance" = none) (hg2 : Gl X t.nm) (hm2 : X.mg t.nm = none) (h : PE X a (tO X.K X.mg W oa)) (hs : starEach [a, .Name t.nm p2] X.env = (false, eval a X.env) :: starEach [.Name t.nm p2] X.env) :
    PE X (.Call (.Name "isinstance" p) [a, .Name t.nm p2] [] pos) (tE X.K X.mg W fun s => bnd (oa s) fun x s => (match view s x with | some d => if isPtr d then none else some (.ok (.bl (tyop d t)) s) | none => none)) := by
  have hb : bootBuiltins (t.nm : Str) = some (.type t.nm) := by cases t <;> decide +kernel
  have h1 : (t.nm : Str) ≠ "__name__" := by cases t <;> decide +kernel
  have h2 : ((t.nm : Str) == ("__debug__" : Str)) = false := by cases t <;> decide +kernel
  have ht : PE X (.Name t.nm p2) (tC (.ty t.nm)) := pe_bltn hg2 hm2 hb rfl h1 h2
  refine peImp (pe_callB call_isi hg hm (by decide +kernel) (pa_cons h (pa_cons ht pa_nil) hs) (by decide +kernel) (by decide +kernel) hs (by rfl)) fun σ H Q q => ?_
  obtain ⟨H0, T, s, σ0, o, k, er, pp⟩ := q
  refine tO_bnd k er pp fun x s1 e1 f1 H1 vx a1 k1 => ?_
  have f1 : (match view s1 x with | some d => if isPtr d then none else some (O.ok (.bl (tyop d t)) s1) | none => none) = some o := f1
  cases ex : view s1 x with
  | none => rw [ex] at f1; cases f1
  | some d =>
    rw [ex] at f1
    have f1 : (if isPtr d then none else some (O.ok (.bl (tyop d t)) s1)) = some o := f1
    split at f1
    · cases f1
    · rename_i np
      cases f1
      obtain ⟨Hs, f, sm, r⟩ := k1.rep a1 ex
      obtain ⟨n, en⟩ : ∃ n, tyN d = some n := by
        cases d <;> first | exact ⟨_, rfl⟩ | exact absurd rfl np
      exact ⟨vx, .ty t.nm, .type n, .type t.nm, tyop d t, rfl, .ty _, tyX_of r sm en, kit_ty (ty_kit en), pp _ _ k1.bl.skip⟩
/-! #### targets -/
mutual
def patS : Pat → List Nat
  | .nm i => [i]
  | .tp ps => patsS ps
def patsS : List Pat → List Nat
  | [] => []
  | p :: ps => patS p ++ patsS ps
end
def sameBut (ws : List Nat) (σ σ' : L2.St) : Prop := σ'.length = σ.length ∧ ∀ i, i ∉ ws → σ'[i]? = σ[i]?
theorem sameBut.refl {ws : List Nat} {σ : L2.St} : sameBut ws σ σ := ⟨rfl, fun _ _ => rfl⟩
def tG (K : PySem.W.Frag) (p : Pat) : TG := fun v σ H Q => ∃ H0 T s σ0 d s', Ok K H0 H ((some d, some v) :: T) s σ0 σ ∧ bind p d s = some s' ∧ ∀ σ' H', sameBut (patS p) σ σ' → Ok K H0 H' T s' σ0 σ' → Q σ' H'
def tGs (K : PySem.W.Frag) (ps : List Pat) : TGs := fun vs σ H Q => ∃ H0 T s σ0 ds s', vs.length = ds.length ∧ Ok K H0 H (es (ds.zip vs) ++ T) s σ0 σ ∧ binds ps ds s = some s' ∧ ∀ σ' H', sameBut (patsS ps) σ σ' → Ok K H0 H' T s' σ0 σ' → Q σ' H'
theorem pgImp {e : Expr} {t t' : TG} (h : PG X e t) (k : ∀ v σ H Q, t' v σ H Q → t v σ H Q) : PG X e t' := ⟨fun pins s σ H v u Q I r q => h.run pins s σ H v u Q I r (k v σ H Q q)⟩
theorem pgsImp {e : List Expr} {t t' : TGs} (h : PGs X e t) (k : ∀ v σ H Q, t' v σ H Q → t v σ H Q) : PGs X e t' := ⟨fun pins s σ H v u Q I r q => h.run pins s σ H v u Q I r (k v σ H Q q)⟩
theorem pG_nm {i : Nat} (h : PG X e (gName i)) : PG X e (tG X.K (.nm i)) := pgImp h fun v σ H Q q => by
  obtain ⟨H0, T, s, σ0, d, s', k, eb, q⟩ := q
  simp only [bind] at eb
  split at eb
  · rename_i hi
    cases eb
    refine q _ _ ⟨by simp, fun j hj => ?_⟩ (k.store hi)
    rw [List.getElem?_set_ne]
    intro e
    exact hj (by simp [patS, e])
  · cases eb
theorem pGs_nil : PGs X [] (tGs X.K []) := pgsImp pgs_nil fun vs σ H Q q => by
  obtain ⟨H0, T, s, σ0, ds, s', hl, k, eb, q⟩ := q
  cases ds with
  | nil =>
    cases eb
    have : vs = [] := List.length_eq_zero_iff.mp hl
    subst this
    exact ⟨rfl, q _ _ .refl k⟩
  | cons d ds => cases eb
theorem pGs_cons {pt : Pat} {ps : List Pat} {es : List Expr} (h1 : PG X e (tG X.K pt)) (h2 : PGs X es (tGs X.K ps)) (hs : (assignEach (e :: es) X.env).map (·.2) = assign e X.env :: (assignEach es X.env).map (·.2)) : PGs X (e :: es) (tGs X.K (pt :: ps)) :=
  pgsImp (pgs_cons h1 h2 hs) fun vs σ H Q q => by
    obtain ⟨H0, T, s, σ0, ds, s', hl, k, eb, q⟩ := q
    cases ds with
    | nil => cases eb
    | cons d ds =>
      cases vs with
      | nil => simp at hl
      | cons v vs =>
        have eb : (match bind pt d s with | some s => binds ps ds s | none => none) = some s' := eb
        cases e1 : bind pt d s with
        | none => rw [e1] at eb; cases eb
        | some s1 =>
          rw [e1] at eb
          refine ⟨v, vs, rfl, H0, VE.es (ds.zip vs) ++ T, s, σ0, d, s1, k, e1, fun σ1 H1 sb k1 => ?_⟩
          refine ⟨H0, T, s1, σ0, ds, s', by simpa using hl, k1, eb, fun σ2 H2 sb2 k2 => q σ2 H2 ⟨sb2.1.trans sb.1, fun i hi => ?_⟩ k2⟩
          simp only [patsS, List.mem_append, not_or] at hi
          exact (sb2.2 i hi.2).trans (sb.2 i hi.1)
theorem binds_len : ∀ {ps : List Pat} {ds : List D} {s s' : SS}, binds ps ds s = some s' → ds.length = ps.length
  | [], [], _, _, _ => rfl
  | [], _ :: _, _, _, h => by cases h
  | _ :: _, [], _, _, h => by cases h
  | p :: ps, d :: ds, s, s', h => by
    have h : (match bind p d s with | some s => binds ps ds s | none => none) = some s' := h
    cases e1 : bind p d s with
    | none => rw [e1] at h; cases h
    | some s1 =>
      rw [e1] at h
      simp [binds_len h]
theorem pG_tp {ps : List Pat} {es : List Expr} {kk : Nat} (hc : X.calm = true) (h : PGs X es (tGs X.K ps)) (hn : (assignEach es X.env).length = ps.length) (hst : (assignEach es X.env).findIdx? (·.1) = none) : PG X (.Tuple es kk pos) (tG X.K (.tp ps)) :=
  pgImp (pg_tup hc h hn hst) fun v σ H Q q => by
    obtain ⟨H0, T, s, σ0, d, s', k, eb, q⟩ := q
    cases d <;> try (cases eb; done)
    rename_i xs
    have eb : binds ps xs s = some s' := eb
    obtain ⟨a, vs, e1, e2, e3, e4⟩ := k.sep.untup
    cases e1
    refine ⟨a, vs, rfl, e2, by rw [e3, binds_len eb], H0, T, s, σ0, xs, s', e3, ⟨k.len, ?_, k.org⟩, eb, q⟩
    rw [List.append_assoc]
    exact e4
/-! #### what is walked -/
structure Src (K : PySem.W.Frag) (J : L2.It) (xs : List D) (src : List Ent) : Prop where
  go : ∀ {H0 H T s σ0 σ} (i : Nat), i < xs.length → Ok K H0 H (src ++ T) s σ0 σ → J.go i H
  stop : ∀ {H0 H T s σ0 σ}, Ok K H0 H (src ++ T) s σ0 σ → J.stop xs.length H
  yld : ∀ {H0 H H' T s σ0 σ} {x : V} {i : Nat} {d : D}, xs[i]? = some d → Ok K H0 H (src ++ T) s σ0 σ → J.yld i H x H' → Ok K H0 H' ((some d, some x) :: (src ++ T)) s σ0 σ
def PostT (K : PySem.W.Frag) (mg : Str → Option Value) (W : WX) (H0 : Hp) (T : List Ent) (σ0 σ : L2.St) (R : L2.It → Hp → Prop) : O (List D) → Prop
  | .ok xs s' => ∀ H' J src, Src K J xs src → Ok K H0 H' (src ++ T) s' σ0 σ → R J H'
  | .ex c s' => ∀ H' C, mg c = some (.ref C) → Ok K H0 H' T s' σ0 σ → W (.ref C) none σ H'
def tIt (K : PySem.W.Frag) (mg : Str → Option Value) (W : WX) (r : SS → Option (O (List D))) : TI := fun σ H R => ∃ H0 T s σ0 o, Ok K H0 H T s σ0 σ ∧ r s = some o ∧ PostT K mg W H0 T σ0 σ R o
theorem piImp {tg e : Expr} {t t' : TI} (h : PI X tg e t) (k : ∀ σ H Q, t' σ H Q → t σ H Q) : PI X tg e t' := ⟨fun pins s σ H Q I q => h.run pins s σ H Q I (k σ H Q q)⟩
theorem piOr {tg e : Expr} {t t' : TI} (h : PI X tg e t) (h' : PI X tg e t') : PI X tg e (fun σ H Q => t σ H Q ∨ t' σ H Q) := ⟨fun pins s σ H Q I q => by
  rcases q with q | q
  · exact h.run pins s σ H Q I q
  · exact h'.run pins s σ H Q I q⟩
theorem rd_inj {H : Hp} {a : Addr} {xs ys : List V} (h : Rd H a (.lst xs)) (h' : Rd H a (.lst ys)) : xs = ys := by
  rcases h with h | ⟨o, h⟩ <;> rcases h' with h' | ⟨o', h'⟩ <;> rw [h] at h' <;> cases h' <;> rfl
/-- the frozen list at the head, item by item -/
theorem src_list {K : PySem.W.Frag} {a : Addr} {xs : List D} (f : fzs xs = true) : Src K (Itl K a) xs [(some (.lst false xs), some (.ref a))] where
  go := fun {H0 H T s σ0 σ} i hi k => by
    obtain ⟨q, vs, e, r, l⟩ := k.list (At.hd (d := .lst false xs)) rfl
    cases e
    exact ⟨vs, vs[i]'(by omega), .inl r, by simp⟩
  stop := fun {H0 H T s σ0 σ} k => by
    obtain ⟨q, vs, e, r, l⟩ := k.list (At.hd (d := .lst false xs)) rfl
    cases e
    exact ⟨vs, .inl r, by omega⟩
  yld := fun {H0 H H' T s σ0 σ x i d} e k y => by
    have hf : fz d = true := fzs_mem f d (List.mem_of_getElem? e)
    obtain ⟨q, vs, v, eu, r, l, ev, z⟩ := k.sep.elem e hf
    cases eu
    obtain ⟨rfl, hy⟩ := y
    have := hy vs (.inl r)
    rw [ev] at this
    cases this
    exact k.lift fun _ => z
theorem src_tup {K : PySem.W.Frag} {a : Addr} {xs : List D} (f : fzs xs = true) : Src K (Itt K a) xs [(some (.tup xs), some (.ref a))] where
  go := fun {H0 H T s σ0 σ} i hi k => by
    obtain ⟨q, vs, e, r, l⟩ := k.tuple (At.hd (d := .tup xs)) rfl
    cases e
    exact ⟨vs, vs[i]'(by omega), r, by simp⟩
  stop := fun {H0 H T s σ0 σ} k => by
    obtain ⟨q, vs, e, r, l⟩ := k.tuple (At.hd (d := .tup xs)) rfl
    cases e
    exact ⟨vs, r, by omega⟩
  yld := fun {H0 H H' T s σ0 σ x i d} e k y => by
    have hf : fz d = true := fzs_mem f d (List.mem_of_getElem? e)
    obtain ⟨q, vs, v, eu, r, l, ev, z⟩ := k.sep.elemT e hf
    cases eu
    obtain ⟨rfl, hy⟩ := y
    have := hy vs r
    rw [ev] at this
    cases this
    exact k.lift fun _ => z
theorem src_rng {K : PySem.W.Frag} {lo : Int} {n : Nat} : Src K (Itr lo n) (rng lo n) [] where
  go := fun {H0 H T s σ0 σ} i hi k => by
    have hl : (rng lo n).length = n := by simp [rng]
    show i < n
    omega
  stop := fun {H0 H T s σ0 σ} k => by
    have hl : (rng lo n).length = n := by simp [rng]
    show n ≤ _
    omega
  yld := fun {H0 H H' T s σ0 σ x i d} e k y => by
    obtain ⟨rfl, rfl⟩ := y
    have hl : (rng lo n).length = n := by simp [rng]
    have hi := (List.getElem?_eq_some_iff.mp e).1
    have ed : d = .int (lo + (i : Nat)) := by
      rw [rng, List.getElem?_map, List.getElem?_range (by omega)] at e
      exact (Option.some.inj e).symm
    subst ed
    exact k.int
theorem src_enum {K : PySem.W.Frag} {a : Addr} {xs : List D} (f : fzs xs = true) : Src K (Ite K a) (xs.zipIdx.map fun p => .tup [.int (p.2 : Int), p.1]) [(some (.lst false xs), some (.ref a))] where
  go := fun {H0 H T s σ0 σ} i hi k => by
    obtain ⟨q, vs, e, r, l⟩ := k.list (At.hd (d := .lst false xs)) rfl
    cases e
    have hi : i < xs.length := by simpa using hi
    exact ⟨vs, vs[i]'(by omega), .inl r, by simp⟩
  stop := fun {H0 H T s σ0 σ} k => by
    obtain ⟨q, vs, e, r, l⟩ := k.list (At.hd (d := .lst false xs)) rfl
    cases e
    refine ⟨vs, .inl r, ?_⟩
    simp [l]
  yld := fun {H0 H H' T s σ0 σ x i d} e k y => by
    rw [List.getElem?_map] at e
    obtain ⟨⟨d0, j⟩, e0, rfl⟩ := map_some' e
    rw [List.getElem?_zipIdx] at e0
    obtain ⟨d1, e1, e2⟩ := map_some' e0
    cases e2
    have hf : fz d0 = true := fzs_mem f d0 (List.mem_of_getElem? e1)
    obtain ⟨q, vs, v, eu, r, l, ev, z⟩ := k.sep.elem e1 hf
    cases eu
    obtain ⟨tt, x0, rfl, ht, rfl, hy⟩ := y
    have := hy vs (.inl r)
    rw [ev] at this
    cases this
    have k1 : Ok K H0 H (VE.es [(D.int ((0 + i : Nat) : Int), V.int ((i : Nat) : Int)), (d0, v)] ++ ((some (.lst false xs), some (.ref a)) :: T)) s σ0 σ := by
      have k0 : Ok K H0 H ((some d0, some v) :: (some (.lst false xs), some (.ref a)) :: T) s σ0 σ := k.lift fun _ => z
      rw [Nat.zero_add]
      exact k0.int
    exact k1.newT ht
theorem src_zip {K : PySem.W.Frag} {a b : Addr} {xs ys : List D} (f : fzs xs = true) (g : fzs ys = true) : Src K (Itz K a b) ((xs.zip ys).map fun p => .tup [p.1, p.2]) [(some (.lst false xs), some (.ref a)), (some (.lst false ys), some (.ref b))] where
  go := fun {H0 H T s σ0 σ} i hi k => by
    obtain ⟨q, vs, e, r, l⟩ := k.list (At.hd (d := .lst false xs)) rfl
    cases e
    obtain ⟨q, ws, e, r2, l2⟩ := k.tail.list (At.hd (d := .lst false ys)) rfl
    cases e
    have hi : i < min xs.length ys.length := by simpa using hi
    exact ⟨vs, ws, vs[i]'(by omega), ws[i]'(by omega), .inl r, .inl r2, by simp, by simp⟩
  stop := fun {H0 H T s σ0 σ} k => by
    obtain ⟨q, vs, e, r, l⟩ := k.list (At.hd (d := .lst false xs)) rfl
    cases e
    obtain ⟨q, ws, e, r2, l2⟩ := k.tail.list (At.hd (d := .lst false ys)) rfl
    cases e
    refine ⟨vs, ws, .inl r, .inl r2, ?_⟩
    simp [l, l2]
    omega
  yld := fun {H0 H H' T s σ0 σ x i d} e k y => by
    rw [List.getElem?_map] at e
    obtain ⟨⟨d0, d1⟩, e0, rfl⟩ := map_some' e
    rw [List.getElem?_zip_eq_some] at e0
    have hf : fz d0 = true := fzs_mem f d0 (List.mem_of_getElem? e0.1)
    have hg : fz d1 = true := fzs_mem g d1 (List.mem_of_getElem? e0.2)
    obtain ⟨q, vs, v, eu, r, l, ev, z⟩ := k.sep.elem e0.1 hf
    cases eu
    have k0 : Ok K H0 H ((some d0, some v) :: (some (.lst false xs), some (.ref a)) :: (some (.lst false ys), some (.ref b)) :: T) s σ0 σ := k.lift fun _ => z
    have k1 : Ok K H0 H ((some (.lst false ys), some (.ref b)) :: (some d0, some v) :: (some (.lst false xs), some (.ref a)) :: T) s σ0 σ := k0.permT (((List.Perm.swap _ _ _).cons _).trans (List.Perm.swap _ _ _))
    obtain ⟨q2, ws, v2, eu, r2, l2, ev2, z2⟩ := k1.sep.elem e0.2 hg
    cases eu
    obtain ⟨tt, x0, y0, rfl, ht, rfl, hy, hy2⟩ := y
    have := hy vs (.inl r)
    rw [ev] at this
    cases this
    have := hy2 ws (.inl r2)
    rw [ev2] at this
    cases this
    have k2 : Ok K H0 H ((some d1, some v2) :: (some (.lst false ys), some (.ref b)) :: (some d0, some v) :: (some (.lst false xs), some (.ref a)) :: T) s σ0 σ := k.lift fun _ => z2
    have k3 : Ok K H0 H (VE.es [(d0, v), (d1, v2)] ++ ((some (.lst false xs), some (.ref a)) :: (some (.lst false ys), some (.ref b)) :: T)) s σ0 σ := by
      refine k2.permT ?_
      -- d1, ys, d0, xs  ~  d0, d1, xs, ys
      refine ((List.Perm.swap _ _ _).cons _).trans ?_
      refine (List.Perm.swap _ _ _).trans ?_
      exact ((List.Perm.swap _ _ _).cons _).cons _
    exact k3.newT ht
theorem Ok.freezeH {K : PySem.W.Frag} {H0 H : Hp} {T : List Ent} {s : SS} {σ0 σ : L2.St} {d : D} {v : V} (k : Ok K H0 H ((some d, some v) :: T) s σ0 σ) : Ok K H0 H ((some (frz d), some v) :: T) s σ0 σ := k.lift Sep.freeze
end
end VE

namespace VE
open PySem L2 PyProof.Rows
section
variable {X : Cx} {W : WX} {tg e a b : Expr} {pos p : Pos} {ra rb : SS → Option (O D)} {oa ob : SS → Option (O Op)} {os : SS → Option (O (List Op))} {es' : List Expr} {rs : SS → Option (O (List D))}
theorem bnd_cases {α β : Type} {r : Option (O α)} {f : α → SS → Option (O β)} {o : O β} (h : bnd r f = some o) : (∃ a s, r = some (.ok a s) ∧ f a s = some o) ∨ (∃ c s, r = some (.ex c s) ∧ o = .ex c s) := by
  cases r with
  | none => cases h
  | some q =>
    cases q with
    | ok a s => exact .inl ⟨a, s, rfl, h⟩
    | ex c s => cases h; exact .inr ⟨c, s, rfl, rfl⟩
theorem pI_ex (h : PE X e (tE X.K X.mg W ra)) : PI X tg e (tIt X.K X.mg W fun s => bnd (ra s) fun d s => (match items (frz d) with | some xs => some (.ok xs s) | none => none)) := by
  refine piImp (piOr (pi_list h) (pi_tup h)) fun σ H R q => ?_
  obtain ⟨H0, T, s, σ0, o, k, er, pp⟩ := q
  rcases bnd_cases er with ⟨d, s1, e1, e2⟩ | ⟨c, s1, e1, rfl⟩
  · cases d with
    | lst bb xs =>
      cases e2
      refine .inl ⟨H0, T, s, σ0, _, k, e1, fun H1 v k1 => ?_⟩
      have k2 := k1.freezeH
      obtain ⟨a, vs, rfl, r, l⟩ := k2.list (At.hd (d := .lst false (frzs xs))) rfl
      exact ⟨a, rfl, ⟨vs, .inl r⟩, pp H1 _ _ (src_list (fzs_frzs xs)) k2⟩
    | tup xs =>
      cases e2
      refine .inr ⟨H0, T, s, σ0, _, k, e1, fun H1 v k1 => ?_⟩
      have k2 := k1.freezeH
      obtain ⟨a, vs, rfl, r, l⟩ := k2.tuple (At.hd (d := .tup (frzs xs))) rfl
      exact ⟨a, rfl, ⟨vs, r⟩, pp H1 _ _ (src_tup (fzs_frzs xs)) k2⟩
    | _ => cases e2
  · exact .inl ⟨H0, T, s, σ0, _, k, e1, pp⟩
theorem pI_enum {elts : List Expr} {kk : Nat} {tpos : Pos} (hg : Gl X "enumerate") (hm : X.mg "enumerate" = none) (h : PE X e (tE X.K X.mg W ra)) (hs : starEach [e] X.env = [(false, eval e X.env)]) :
    PI X (.Tuple elts kk tpos) (.Call (.Name "enumerate" p) [e] [] pos) (tIt X.K X.mg W fun s => bnd (ra s) fun d s => (match listItems (frz d) with | some xs => some (.ok (xs.zipIdx.map fun p => .tup [.int (p.2 : Int), p.1]) s) | none => none)) := by
  refine piImp (pi_enum hg hm (pa_cons h pa_nil hs) hs) fun σ H R q => ?_
  obtain ⟨H0, T, s, σ0, o, k, er, pp⟩ := q
  rcases bnd_cases er with ⟨d, s1, e1, e2⟩ | ⟨c, s1, e1, rfl⟩
  · cases d with
    | lst bb xs =>
      cases e2
      refine ⟨H0, T, s, σ0, _, k, e1, fun H1 v k1 => ?_⟩
      have k2 := k1.freezeH
      obtain ⟨a, vs, rfl, r, l⟩ := k2.list (At.hd (d := .lst false (frzs xs))) rfl
      exact ⟨a, vs, rfl, .inl r, pp H1 _ _ (src_enum (fzs_frzs xs)) k2⟩
    | _ => cases e2
  · exact ⟨H0, T, s, σ0, _, k, e1, pp⟩
theorem pI_zip {elts : List Expr} {kk : Nat} {tpos : Pos} (hg : Gl X "zip") (hm : X.mg "zip" = none) (h1 : PE X a (tE X.K X.mg W ra)) (h2 : PE X b (tE X.K X.mg W rb)) (hs : starEach [a, b] X.env = (false, eval a X.env) :: starEach [b] X.env) (hs2 : starEach [b] X.env = [(false, eval b X.env)]) :
    PI X (.Tuple elts kk tpos) (.Call (.Name "zip" p) [a, b] [] pos) (tIt X.K X.mg W fun s => bnd (ra s) fun d s => bnd (rb s) fun e s => (match listItems (frz d), listItems (frz e) with | some xs, some ys => some (.ok ((xs.zip ys).map fun p => .tup [p.1, p.2]) s) | _, _ => none)) := by
  refine piImp (pi_zip hg hm (pa_cons h1 (pa_cons h2 pa_nil hs2) hs) hs (by rw [hs2]; rfl)) fun σ H R q => ?_
  obtain ⟨H0, T, s, σ0, o, k, er, pp⟩ := q
  rcases bnd_cases er with ⟨d, s1, e1, e2⟩ | ⟨c, s1, e1, rfl⟩
  · refine ⟨H0, T, s, σ0, _, k, e1, fun H1 v k1 => ?_⟩
    rcases bnd_cases e2 with ⟨d2, s2, e3, e4⟩ | ⟨c, s2, e3, rfl⟩
    · refine ⟨H0, _, s1, σ0, _, k1, e3, fun H2 v2 k2 => ?_⟩
      cases d with
      | lst bb xs =>
        cases d2 with
        | lst bb2 ys =>
          cases e4
          have k3 := (k2.freezeH.permT (List.Perm.swap _ _ _)).freezeH
          obtain ⟨a', vs, rfl, r, l⟩ := k3.list (At.hd (d := .lst false (frzs xs))) rfl
          obtain ⟨b', ws, rfl, r2, l2⟩ := k3.tail.list (At.hd (d := .lst false (frzs ys))) rfl
          exact ⟨a', b', vs, ws, rfl, .inl r, .inl r2, pp H2 _ _ (src_zip (fzs_frzs xs) (fzs_frzs ys)) k3⟩
        | _ => cases e4
      | _ => cases d2 <;> cases e4
    · exact ⟨H0, _, s1, σ0, _, k1, e3, fun H' C hc k2 => pp H' C hc k2.tail⟩
  · exact ⟨H0, T, s, σ0, _, k, e1, pp⟩
theorem rngOk_le {i : Int} (h : rngOk i = true) : -(2 ^ 62) ≤ i ∧ i < 2 ^ 62 := okB_iff.mp h
theorem pI_r1 (hg : Gl X "range") (hm : X.mg "range" = none) (h : PE X e (tE X.K X.mg W ra)) (hs : starEach [e] X.env = [(false, eval e X.env)]) :
    PI X tg (.Call (.Name "range" p) [e] [] pos) (tIt X.K X.mg W fun s => bnd (ra s) fun d s => (match d with | .int j => if rngOk j then some (.ok (rng 0 j.toNat) s) else none | _ => none)) := by
  refine piImp (pi_range1 hg hm (pa_cons h pa_nil hs) hs) fun σ H R q => ?_
  obtain ⟨H0, T, s, σ0, o, k, er, pp⟩ := q
  rcases bnd_cases er with ⟨d, s1, e1, e2⟩ | ⟨c, s1, e1, rfl⟩
  · cases d with
    | int j =>
      have e2 : (if rngOk j then some (O.ok (rng 0 j.toNat) s1) else none) = some o := e2
      split at e2
      · rename_i c
        cases e2
        refine ⟨H0, T, s, σ0, _, k, e1, fun H1 v k1 => ?_⟩
        have hb := rngOk_le c
        exact ⟨j, by rw [k1.isInt At.hd rfl], hb.1, hb.2, pp H1 _ [] src_rng k1.tail⟩
      · cases e2
    | _ => cases e2
  · exact ⟨H0, T, s, σ0, _, k, e1, pp⟩
theorem pI_r2 (hg : Gl X "range") (hm : X.mg "range" = none) (h1 : PE X a (tE X.K X.mg W ra)) (h2 : PE X b (tE X.K X.mg W rb)) (hs : starEach [a, b] X.env = [(false, eval a X.env), (false, eval b X.env)]) (hs2 : starEach [b] X.env = [(false, eval b X.env)]) :
    PI X tg (.Call (.Name "range" p) [a, b] [] pos) (tIt X.K X.mg W fun s => bnd (ra s) fun d s => bnd (rb s) fun e s => (match d, e with | .int i, .int j => if rngOk i && rngOk j then some (.ok (rng i (j - i).toNat) s) else none | _, _ => none)) := by
  refine piImp (pi_range2 hg hm (pa_cons h1 (pa_cons h2 pa_nil hs2) (by rw [hs, hs2])) hs hs2) fun σ H R q => ?_
  obtain ⟨H0, T, s, σ0, o, k, er, pp⟩ := q
  rcases bnd_cases er with ⟨d, s1, e1, e2⟩ | ⟨c, s1, e1, rfl⟩
  · refine ⟨H0, T, s, σ0, _, k, e1, fun H1 v k1 => ?_⟩
    rcases bnd_cases e2 with ⟨d2, s2, e3, e4⟩ | ⟨c, s2, e3, rfl⟩
    · refine ⟨H0, _, s1, σ0, _, k1, e3, fun H2 v2 k2 => ?_⟩
      cases d with
      | int i =>
        cases d2 with
        | int j =>
          have e4 : (if rngOk i && rngOk j then some (O.ok (rng i (j - i).toNat) s2) else none) = some o := e4
          split at e4
          · rename_i c
            cases e4
            rw [Bool.and_eq_true] at c
            have b1 := rngOk_le c.1
            have b2 := rngOk_le c.2
            exact ⟨i, j, by rw [k1.isInt At.hd rfl, k2.isInt At.hd rfl], ⟨b1.1, b1.2, b2.1, b2.2⟩, pp H2 _ [] src_rng k2.tail.tail⟩
          · cases e4
        | _ => cases e4
      | _ => cases d2 <;> cases e4
    · exact ⟨H0, _, s1, σ0, _, k1, e3, fun H' C hc k2 => pp H' C hc k2.tail⟩
  · exact ⟨H0, T, s, σ0, _, k, e1, pp⟩
end
/-! #### slots put aside -/
theorem wip1_eq : ∀ (s : SS) (i : Nat), wip1 s i = s.set i ⟨false, none⟩
  | [], i => by simp [wip1]
  | a :: r, 0 => by simp [wip1]
  | a :: r, n + 1 => by simp [wip1, wip1_eq r n]
theorem rst1_eq : ∀ (s t : SS) (i : Nat) (b : Sl), i < s.length → t[i]? = some b → rst1 s t i = s.set i b
  | [], t, i, b, h, _ => by simp at h
  | a :: s, [], i, b, _, h => by simp at h
  | a :: s, c :: t, 0, b, _, h => by simp at h; simp [rst1, h]
  | a :: s, c :: t, i + 1, b, h, h2 => by simp [rst1, rst1_eq s t i b (by simpa using h) (by simpa using h2)]
theorem rst1_out : ∀ (s t : SS) (i : Nat), s.length = t.length → ¬ i < s.length → rst1 s t i = s
  | [], [], i, _, _ => by simp [rst1]
  | [], _ :: _, i, h, _ => by simp at h
  | _ :: _, [], i, h, _ => by simp at h
  | a :: s, c :: t, 0, _, h => by simp at h
  | a :: s, c :: t, i + 1, h, h2 => by simp [rst1, rst1_out s t i (by simpa using h) (by simpa using h2)]
theorem rst1_len (s t : SS) (i : Nat) (h : s.length = t.length) : (rst1 s t i).length = s.length := by
  by_cases hi : i < s.length
  · rw [rst1_eq s t i (t[i]'(by omega)) hi (List.getElem?_eq_getElem (by omega)), List.length_set]
  · rw [rst1_out s t i h hi]
section
variable {K : PySem.W.Frag} {H0 H H' : Hp} {T : List Ent} {s t : SS} {σ0 σ : L2.St}
theorem Ok.setNone {i : Nat} (k : Ok K H0 H T s σ0 σ) : Ok K H0 H T (wip1 s i) σ0 (σ.set i none) := by
  rw [wip1_eq]
  by_cases hi : i < s.length
  · have hσ : i < σ.length := by rw [← k.len]; exact hi
    have en : (ents s σ)[i]? = some (s[i].d, σ[i]) := ents_get (List.getElem?_eq_getElem hi) (List.getElem?_eq_getElem hσ)
    have hl : i < (ents s σ).length := (List.getElem?_eq_some_iff.mp en).1
    have q := (Sep.focus en).mp k.sep
    have q2 : Sep K H H0 ((none, none) :: (T ++ (ents s σ).eraseIdx i)) := q.forget
    have z := Sep.put hl q2
    have ez := ents_set s σ i ⟨false, none⟩ none
    refine ⟨by rw [List.length_set, List.length_set]; exact k.len, by rw [ez]; exact z, fun j b hb ho => ?_⟩
    by_cases hj : i = j
    · subst hj
      rw [List.getElem?_set_self hi] at hb
      cases hb
      cases ho
    · rw [List.getElem?_set_ne hj] at hb
      rw [List.getElem?_set_ne hj]
      exact k.org j b hb ho
  · have hσ : ¬ i < σ.length := by rw [← k.len]; exact hi
    rw [List.set_eq_of_length_le (by omega), List.set_eq_of_length_le (by omega)]
    exact k
theorem Ok.wips (k : Ok K H0 H T s σ0 σ) : ∀ vs : List Nat, Ok K H0 H T (wips s vs) σ0 (wipe σ vs)
  | [] => k
  | v :: vs => (Ok.wips k vs).setNone
def ownE (s : SS) (σ : L2.St) (vs : List Nat) : List Ent := vs.map fun v => (gt s v, (σ[v]?).join)
theorem Ok.aside (k : Ok K H0 H T s σ0 σ) : ∀ vs : List Nat, ownOk s vs = true → Ok K H0 H (ownE s σ vs ++ T) s σ0 σ
  | [], _ => k
  | v :: vs, h => by
    simp only [ownOk, List.all_cons, Bool.and_eq_true] at h
    have ih := Ok.aside k vs h.2
    show Ok K H0 H ((VE.gt s v, (σ[v]?).join) :: (ownE s σ vs ++ T)) s σ0 σ
    cases e : VE.gt s v with
    | none => exact ih.lift Sep.non
    | some d =>
      rw [e] at h
      obtain ⟨u, hu, en⟩ := ih.gt e
      rw [hu]
      obtain ⟨R, pm⟩ := ih.at (show At (ownE s σ vs ++ T) σ (.pl v) u from hu) e
      exact ih.lift fun z => ((z.perm pm).copy h.1).perm (pm.symm.cons _)
theorem wipe_get {σ : L2.St} {v : Nat} : ∀ {vs : List Nat}, v ∉ vs → (wipe σ vs)[v]? = σ[v]?
  | [], _ => rfl
  | w :: vs, h => by
    simp only [List.mem_cons, not_or] at h
    unfold wipe
    rw [List.getElem?_set_ne (fun e => h.1 e.symm)]
    exact wipe_get h.2
theorem Ok.again (k0 : Ok K H0 H' T s σ0 σ) : ∀ {vs : List Nat} {t : SS} {T' : List Ent}, vs.Nodup → Ok K H0 H (ownE s σ vs ++ T') t σ0 (wipe σ vs) → Ok K H0 H T' (rsts t s vs) σ0 σ
  | [], t, T', _, k => k
  | v :: vs, t, T', nd, k => by
    obtain ⟨nv, nd⟩ := List.nodup_cons.mp nd
    have k : Ok K H0 H ((VE.gt s v, (σ[v]?).join) :: (ownE s σ vs ++ T')) t σ0 ((wipe σ vs).set v none) := k
    refine Ok.again k0 (vs := vs) nd ?_
    have hl : t.length = σ.length := by rw [k.len, List.length_set, wipe_length]
    have hst : t.length = s.length := by rw [hl, k0.len]
    by_cases hv : v < t.length
    · have hs : s[v]? = some (s[v]'(by omega)) := List.getElem?_eq_getElem (by omega)
      have hσ : σ[v]? = some (σ[v]'(by omega)) := List.getElem?_eq_getElem (by omega)
      rw [rst1_eq t s v _ hv hs]
      have et : t[v]? = some t[v] := List.getElem?_eq_getElem hv
      have en : (ents t ((wipe σ vs).set v none))[v]? = some (t[v].d, none) := ents_get et (List.getElem?_set_self (by rw [wipe_length]; omega))
      have hle : v < (ents t ((wipe σ vs).set v none)).length := (List.getElem?_eq_some_iff.mp en).1
      have q := ((Sep.focus (T := (VE.gt s v, (σ[v]?).join) :: (ownE s σ vs ++ T')) en).mp k.sep).drop
      have eg : VE.gt s v = (s[v]'(by omega)).d := by rw [gt_eq, hs]; rfl
      rw [eg, hσ] at q
      have z := Sep.put hle q
      have ez : ents (t.set v (s[v]'(by omega))) (wipe σ vs) = (ents t ((wipe σ vs).set v none)).set v ((s[v]'(by omega)).d, σ[v]'(by omega)) := by
        have h := ents_set t ((wipe σ vs).set v none) v (s[v]'(by omega)) (σ[v]'(by omega))
        rw [List.set_set] at h
        have h2 : (wipe σ vs).set v (σ[v]'(by omega)) = wipe σ vs := set_self (by rw [wipe_get nv, hσ])
        rw [h2] at h
        exact h
      refine ⟨by rw [List.length_set, wipe_length]; exact hl, by rw [ez]; exact z, fun j b hb ho => ?_⟩
      by_cases hj : v = j
      · subst hj
        rw [List.getElem?_set_self hv] at hb
        cases hb
        rw [wipe_get nv]
        exact k0.org v _ hs ho
      · rw [List.getElem?_set_ne hj] at hb
        have := k.org j b hb ho
        rwa [List.getElem?_set_ne hj] at this
    · rw [rst1_out t s v hst hv]
      have e : (wipe σ vs).set v none = wipe σ vs := List.set_eq_of_length_le (by rw [wipe_length]; omega)
      rw [e] at k
      exact k.tail
theorem wipe_same {σ σ' : L2.St} : ∀ {vs ws : List Nat}, σ'.length = σ.length → (∀ i, i ∉ ws → σ'[i]? = σ[i]?) → (∀ i ∈ ws, i ∈ vs) → wipe σ' vs = wipe σ vs := by
  intro vs ws hl h hs
  apply List.ext_getElem?
  intro i
  by_cases hi : i ∈ vs
  · have none : ∀ (τ : L2.St), (wipe τ vs)[i]? = if i < τ.length then some Option.none else Option.none := by
      intro τ
      clear hs h hl
      induction vs with
      | nil => cases hi
      | cons v vs ih =>
        unfold wipe
        by_cases hv : v = i
        · subst hv
          by_cases hh : v < τ.length
          · rw [List.getElem?_set_self (by rw [wipe_length]; exact hh), if_pos hh]
          · rw [List.getElem?_eq_none (by rw [List.length_set, wipe_length]; omega), if_neg hh]
        · rw [List.getElem?_set_ne hv]
          rcases List.mem_cons.mp hi with e | hi
          · exact absurd e.symm hv
          · exact ih hi
    rw [none σ', none σ, hl]
  · rw [wipe_get hi, wipe_get hi]
    exact h i fun hw => hi (hs i hw)
theorem wipe_wipe {σ : L2.St} {vs : List Nat} : wipe (wipe σ vs) vs = wipe σ vs := by
  apply List.ext_getElem?
  intro i
  by_cases hi : i ∈ vs
  · have e := wipe_same (σ := σ) (σ' := wipe σ vs) (vs := vs) (ws := vs) (wipe_length σ vs) (fun j hj => wipe_get hj) fun _ h => h
    rw [e]
  · rw [wipe_get hi]
end
/-! #### comprehensions -/
section
variable {X : Cx} {W : WX} {K : PySem.W.Frag} {mg : Str → Option Value}
abbrev W0 : WX := fun _ _ _ _ => False
/-- a test of a comprehension -/
def tB (K : PySem.W.Frag) (r : SS → Option (O Bool)) : TT := fun σ H Q => ∃ H0 T s σ0 b s', Ok K H0 H T s σ0 σ ∧ r s = some (.ok b s') ∧ ∀ H', Ok K H0 H' T s' σ0 σ → Q b H'
theorem ptsImp {es : List Expr} {t t' : TT} (h : PTs X es t) (k : ∀ σ H Q, t' σ H Q → t σ H Q) : PTs X es t' := ⟨fun pins s σ H Q I q => h.run pins s σ H Q I (k σ H Q q)⟩
theorem pB_nil : PTs X [] (tB K fun s => some (.ok true s)) := ptsImp pts_nil fun σ H Q q => by
  obtain ⟨H0, T, s, σ0, b, s', k, e, q⟩ := q
  cases e
  exact q H k
theorem pB_one {c : Expr} {r : SS → Option (O D)} (h : PT X c (tT X.K X.mg W r)) : PTs X [c] (tB X.K fun s => bnd (r s) fun d s => (match d with | .bl b => some (.ok b s) | _ => none)) := ptsImp (pts_one h) fun σ H Q q => by
  obtain ⟨H0, T, s, σ0, b, s', k, e, q⟩ := q
  rcases bnd_cases e with ⟨d, s1, e1, e2⟩ | ⟨c, s1, e1, e2⟩
  · cases d with
    | bl b2 =>
      cases e2
      exact ⟨H0, T, s, σ0, _, k, e1, fun H' v k1 => ⟨b, k1.isBl At.hd rfl, q H' k1.tail⟩⟩
    | _ => cases e2
  · cases e2
def compF (pt : Pat) (rc : SS → Option (O Bool)) (re : SS → Option (O D)) (x : D) (s : SS) : Option (O (Option D)) := match bind pt x s with
        | some s => bnd (rc s) fun b s => if b then bnd (re s) fun d s => some (.ok (some d) s) else some (.ok none s)
        | none => none
def compE (rt : SS → Option (O (List D))) (pt : Pat) (rc : SS → Option (O Bool)) (re : SS → Option (O D)) (own : List Nat) (s : SS) : Option (O D) := bnd (rt s) fun xs s => if ownOk s own then
      (match compL (compF pt rc re) own xs [] (wips s own) with
      | some (.ok d t) => some (.ok d (rsts t s own))
      | _ => none) else none
theorem compL_cons {f : D → SS → Option (O (Option D))} {vs : List Nat} {x : D} {xs acc : List D} {s : SS} {r : O D} (h : compL f vs (x :: xs) acc s = some r) :
    (∃ d s1, f x s = some (.ok (some d) s1) ∧ acc.length < LIM ∧ compL f vs xs (acc ++ [d]) (wips s1 vs) = some r) ∨ (∃ s1, f x s = some (.ok none s1) ∧ compL f vs xs acc (wips s1 vs) = some r) := by
  unfold compL at h
  split at h
  · rename_i d s1 e
    split at h
    · rename_i c
      exact .inl ⟨d, s1, e, c, h⟩
    · cases h
  · rename_i s1 e
    exact .inr ⟨s1, e, h⟩
  · cases h
theorem tComp {rt : SS → Option (O (List D))} {pt : Pat} {rc : SS → Option (O Bool)} {re : SS → Option (O D)} {own : List Nat} (nd : own.Nodup) (hp : ∀ i ∈ patS pt, i ∈ own) {σ : L2.St} {H : Hp} {Q : VK} (q : tE K mg W (compE rt pt rc re own) σ H Q) :
    tLc (tIt K mg W rt) (tG K pt) (tB K rc) (tE K mg W0 re) own σ H Q := by
  obtain ⟨H0, T, s, σ0, o, k, er, p⟩ := q
  rcases bnd_cases er with ⟨xs, s1, e1, e2⟩ | ⟨c, s1, e1, rfl⟩
  · have e2 : (if ownOk s1 own then
      (match compL (compF pt rc re) own xs [] (wips s1 own) with
      | some (.ok d t) => some (O.ok d (rsts t s1 own))
      | _ => none) else none) = some o := e2
    split at e2
    · rename_i ow
      obtain ⟨d, t, ec, rfl⟩ : ∃ d t, compL (compF pt rc re) own xs [] (wips s1 own) = some (.ok d t) ∧ o = .ok d (rsts t s1 own) := by
        split at e2
        · rename_i d t ec
          cases e2
          exact ⟨d, t, ec, rfl⟩
        · cases e2
      refine ⟨H0, T, s, σ0, _, k, e1, fun H1 J src S k1 => fun DD hD => ?_⟩
      have k2 : Ok K H0 H1 (ownE s1 σ own ++ (src ++ T)) (wips s1 own) σ0 (wipe σ own) := (k1.aside own ow).wips own
      have k3 : Ok K H0 (upd H1 DD (.lst [])) ((some (.lst true []), some (.ref DD)) :: (src ++ (ownE s1 σ own ++ T))) (wips s1 own) σ0 (wipe σ own) := by
        have k2' : Ok K H0 H1 (VE.es [] ++ (src ++ (ownE s1 σ own ++ T))) (wips s1 own) σ0 (wipe σ own) := k2.permT (by
          have q := (List.perm_append_comm (l₁ := ownE s1 σ own) (l₂ := src)).append_right T
          show (ownE s1 σ own ++ (src ++ T)).Perm (src ++ (ownE s1 σ own ++ T))
          simpa only [List.append_assoc] using q)
        exact k2'.newL hD
      have turn : ∀ {acc : List D} {s' : SS} {H : Hp}, Ok K H0 H ((some (.lst true acc), some (.ref DD)) :: (src ++ (ownE s1 σ own ++ T))) s' σ0 (wipe σ own) → Ok K H0 H (src ++ ((some (.lst true acc), some (.ref DD)) :: (ownE s1 σ own ++ T))) s' σ0 (wipe σ own) := fun kk => kk.permT List.perm_middle.symm
      refine ⟨fun i m H => m = xs.length - i ∧ i ≤ xs.length ∧ ∃ acc s', Ok K H0 H ((some (.lst true acc), some (.ref DD)) :: (src ++ (ownE s1 σ own ++ T))) s' σ0 (wipe σ own) ∧ compL (compF pt rc re) own (xs.drop i) acc s' = some (.ok d t),
        ⟨xs.length, by simp, Nat.zero_le _, [], _, k3, ec⟩, ?_⟩
      rintro i m H ⟨rfl, hi, acc, s', kk, ek⟩
      by_cases hlt : i < xs.length
      · refine .inr ⟨S.go i hlt (turn kk), fun H => i + 1 ≤ xs.length ∧ ∃ acc s', Ok K H0 H ((some (.lst true acc), some (.ref DD)) :: (src ++ (ownE s1 σ own ++ T))) s' σ0 (wipe σ own) ∧ compL (compF pt rc re) own (xs.drop (i + 1)) acc s' = some (.ok d t),
          fun H' hN => ⟨xs.length - (i + 1), by omega, rfl, hN⟩, fun x H' hy => ?_⟩
        have ex : xs[i]? = some xs[i] := List.getElem?_eq_getElem hlt
        have ed : xs.drop i = xs[i] :: xs.drop (i + 1) := List.drop_eq_getElem_cons hlt
        have k4 := S.yld ex (turn kk) hy
        rw [ed] at ek
        -- what the turn does
        have step : ∀ {oo : Option D} {s2 : SS}, compF pt rc re xs[i] s' = some (.ok oo s2) → ∃ s3, bind pt xs[i] s' = some s3 ∧ ∃ b s4, rc s3 = some (.ok b s4) ∧ ((b = true ∧ ∃ d', re s4 = some (.ok d' s2) ∧ oo = some d') ∨ (b = false ∧ oo = none ∧ s4 = s2)) := by
          intro oo s2 h
          unfold compF at h
          cases eb : bind pt xs[i] s' with
          | none => rw [eb] at h; cases h
          | some s3 =>
            rw [eb] at h
            have h : bnd (rc s3) (fun b s => if b then bnd (re s) fun d s => some (O.ok (some d) s) else some (.ok none s)) = some (.ok oo s2) := h
            rcases bnd_cases h with ⟨b, s4, h1, h2⟩ | ⟨_, _, _, h2⟩
            · refine ⟨s3, rfl, b, s4, h1, ?_⟩
              cases b with
              | true =>
                have h2 : bnd (re s4) (fun d s => some (O.ok (some d) s)) = some (.ok oo s2) := h2
                rcases bnd_cases h2 with ⟨d', s5, h3, h4⟩ | ⟨_, _, _, h4⟩
                · cases h4
                  exact .inl ⟨rfl, d', h3, rfl⟩
                · cases h4
              | false =>
                cases h2
                exact .inr ⟨rfl, rfl, rfl⟩
            · cases h2
        have go : ∀ {oo : Option D} {s2 : SS}, compF pt rc re xs[i] s' = some (.ok oo s2) → compL (compF pt rc re) own (xs.drop (i + 1)) (match oo with | some d' => acc ++ [d'] | none => acc) (wips s2 own) = some (.ok d t) → (oo.isSome = true → acc.length < LIM) →
            tG K pt x (wipe σ own) H' fun σ2 H2 => wipe σ2 own = wipe σ own ∧ tB K rc σ2 H2 fun b H3 =>
              if b = true then tE K mg W0 re σ2 H3 fun y H4 => ∃ acc, H4 DD = some (.lst acc) ∧ acc.length < sizeLine ∧ ((fun H => i + 1 ≤ xs.length ∧ ∃ acc s', Ok K H0 H ((some (.lst true acc), some (.ref DD)) :: (src ++ (ownE s1 σ own ++ T))) s' σ0 (wipe σ own) ∧ compL (compF pt rc re) own (xs.drop (i + 1)) acc s' = some (.ok d t)) (upd H4 DD (.lst (acc ++ [y]))))
              else (fun H => i + 1 ≤ xs.length ∧ ∃ acc s', Ok K H0 H ((some (.lst true acc), some (.ref DD)) :: (src ++ (ownE s1 σ own ++ T))) s' σ0 (wipe σ own) ∧ compL (compF pt rc re) own (xs.drop (i + 1)) acc s' = some (.ok d t)) H3 := by
          intro oo s2 hf hc hlim
          obtain ⟨s3, eb, b, s4, h1, h2⟩ := step hf
          refine ⟨H0, _, s', σ0, xs[i], s3, k4, eb, fun σ2 H2 sb k5 => ?_⟩
          have ew : wipe σ2 own = wipe σ own := by
            have := wipe_same (σ := wipe σ own) (σ' := σ2) (vs := own) (ws := patS pt) sb.1 sb.2 hp
            rw [this, wipe_wipe]
          refine ⟨ew, H0, _, s3, σ0, b, s4, k5, h1, fun H3 k6 => ?_⟩
          rcases h2 with ⟨rfl, d', h3, rfl⟩ | ⟨rfl, rfl, rfl⟩
          · refine iteT ⟨H0, _, s4, σ0, _, k6, h3, fun H4 y k7 => ?_⟩
            have k8 : Ok K H0 H4 ((some (.lst true acc), some (.ref DD)) :: (VE.es [(d', y)] ++ (src ++ (ownE s1 σ own ++ T)))) s2 σ0 σ2 := k7.permT (by
              have p1 : ((some d', some y) :: (src ++ ((some (.lst true acc), some (.ref DD)) :: (ownE s1 σ own ++ T))) : List Ent).Perm ((some d', some y) :: (some (.lst true acc), some (.ref DD)) :: (src ++ (ownE s1 σ own ++ T))) := List.perm_middle.cons _
              exact p1.trans (List.Perm.swap _ _ _))
            have z0 : Sep K H4 H0 ((some (.lst true acc), some (.ref DD)) :: (VE.es [(d', y)] ++ ((src ++ (ownE s1 σ own ++ T)) ++ ents s2 σ2))) := by
              have := k8.sep
              simpa only [List.append_assoc, List.cons_append] using this
            obtain ⟨a', ws, e0, ha, hl, upd'⟩ := z0.lupd
            cases e0
            refine ⟨ws, ha, by rw [hl, ← LIM_eq]; exact hlim rfl, by omega, acc ++ [d'], wips s2 own, ?_, hc⟩
            have z := upd' (acc.zip ws ++ [(d', y)]) [] (by simp)
            rw [List.map_append, List.map_append, mfz hl, msz hl] at z
            have k9 : Ok K H0 (upd H4 DD (.lst (ws ++ [y]))) ((some (.lst true (acc ++ [d'])), some (.ref DD)) :: (src ++ (ownE s1 σ own ++ T))) s2 σ0 σ2 := ⟨k8.len, by
              have z' : Sep K (upd H4 DD (.lst (ws ++ [y]))) H0 ((some (.lst true (acc ++ [d'])), some (.ref DD)) :: ((src ++ (ownE s1 σ own ++ T)) ++ ents s2 σ2)) := z
              exact z', k8.org⟩
            have := k9.wips own
            rwa [ew] at this
          · refine iteF ⟨by omega, acc, wips s4 own, ?_, hc⟩
            have := (k6.permT (List.perm_middle (a := ((some (.lst true acc), some (.ref DD)) : Ent)) (l₁ := src) (l₂ := ownE s1 σ own ++ T))).wips own
            rwa [ew] at this
        rcases compL_cons ek with ⟨d', s2, h1, h2, h3⟩ | ⟨s2, h1, h3⟩
        · exact go h1 h3 fun _ => h2
        · exact go h1 h3 fun hh => by cases hh
      · have e : i = xs.length := by omega
        subst e
        refine .inl ⟨S.stop (turn kk), ?_⟩
        rw [List.drop_length] at ek
        cases ek
        refine p H _ ?_
        have k4 : Ok K H0 H (ownE s1 σ own ++ ((some (.lst true acc), some (.ref DD)) :: T)) t σ0 (wipe σ own) := by
          have k5 : Ok K H0 H ((some (.lst true acc), some (.ref DD)) :: (ownE s1 σ own ++ T)) t σ0 (wipe σ own) := kk.sub (X := [(some (.lst true acc), some (.ref DD))]) (Y := src)
          exact k5.permT List.perm_middle.symm
        exact k1.again nd k4
    · cases e2
  · exact ⟨H0, T, s, σ0, _, k, e1, p⟩
end
end VE

namespace VE
open PySem L2 PyProof.Rows
theorem bnds_cases {α : Type} {r : Option (O α)} {f : α → SS → Option (Fl × SS)} {o : Fl × SS} (h : bnds r f = some o) : (∃ a s, r = some (.ok a s) ∧ f a s = some o) ∨ (∃ c s, r = some (.ex c s) ∧ o = (.exc c, s)) := by
  cases r with
  | none => cases h
  | some q =>
    cases q with
    | ok a s => exact .inl ⟨a, s, rfl, h⟩
    | ex c s => cases h; exact .inr ⟨c, s, rfl, rfl⟩
section
variable {X : Cx} {W : WX} {e c tg : Expr} {pos : Pos} {ra rb rc : SS → Option (O D)} {st : Stmt} {sts sts2 : List Stmt} {r1 r2 : SS → Option (Fl × SS)}
theorem pS_nil : PSs X [] (tS X.K X.mg W fun s => some (.nxt, s)) := pssImp pss_nil fun DD σ H q => by
  obtain ⟨H0, T, s, σ0, f, s', k, er, p⟩ := q
  cases er
  exact p σ H k
def seqE (r1 r2 : SS → Option (Fl × SS)) (s : SS) : Option (Fl × SS) := match r1 s with | some (.nxt, s) => r2 s | x => x
theorem pS_cons (h1 : PS X st (tS X.K X.mg W r1)) (h2 : PSs X sts (tS X.K X.mg W r2)) : PSs X (st :: sts) (tS X.K X.mg W (seqE r1 r2)) := pssImp (pss_cons h1 h2) fun DD σ H q => by
  obtain ⟨H0, T, s, σ0, f, s', k, er, p⟩ := q
  unfold seqE at er
  cases e1 : r1 s with
  | none => rw [e1] at er; cases er
  | some q =>
    obtain ⟨f1, s1⟩ := q
    rw [e1] at er
    cases f1 with
    | nxt => exact ⟨H0, T, s, σ0, .nxt, s1, k, e1, fun σ1 H1 k1 => ⟨H0, T, s1, σ0, f, s', k1, er, p⟩⟩
    | ret d => cases er; exact ⟨H0, T, s, σ0, _, _, k, e1, p⟩
    | brk => cases er; exact ⟨H0, T, s, σ0, _, _, k, e1, p⟩
    | cnt => cases er; exact ⟨H0, T, s, σ0, _, _, k, e1, p⟩
    | exc c => cases er; exact ⟨H0, T, s, σ0, _, _, k, e1, p⟩
theorem pS_expr (h : PE X e (tE X.K X.mg W ra)) (hs : swapsWith e none pos.line X.env = pure false) : PS X (.Expr e pos) (tS X.K X.mg W fun s => bnds (ra s) fun _ s => some (.nxt, s)) := psImp (ps_expr h hs) fun DD σ H q => by
  obtain ⟨H0, T, s, σ0, f, s', k, er, p⟩ := q
  rcases bnds_cases er with ⟨d, s1, e1, e2⟩ | ⟨c, s1, e1, e2⟩
  · cases e2
    exact ⟨H0, T, s, σ0, _, k, e1, fun H1 v k1 => p σ H1 k1.tail⟩
  · cases e2
    exact ⟨H0, T, s, σ0, _, k, e1, fun H1 C hc k1 => p σ H1 C hc k1⟩
theorem pS_doc {x : Str} {j : Nat} {pos pos' : Pos} : PS X (.Expr (.Constant (.str x) j pos) pos') (tS X.K X.mg W fun s => some (.nxt, s)) := psImp ps_doc fun DD σ H q => by
  obtain ⟨H0, T, s, σ0, f, s', k, er, p⟩ := q
  cases er
  exact p σ H k
def asgE (ra : SS → Option (O D)) (pt : Pat) (s : SS) : Option (Fl × SS) := bnds (ra s) fun d s => (match bind pt d s with | some s => some (.nxt, s) | none => none)
theorem tAsgOk {te : TE} {pt : Pat} {DD : Ends} {σ : L2.St} {H : Hp} (hte : ∀ σ H Q, tE X.K X.mg W ra σ H Q → te σ H Q) (q : tS X.K X.mg W (asgE ra pt) DD σ H) : tAsg te (tG X.K pt) DD σ H := by
  obtain ⟨H0, T, s, σ0, f, s', k, er, p⟩ := q
  refine hte σ H _ ?_
  rcases bnds_cases er with ⟨d, s1, e1, e2⟩ | ⟨c, s1, e1, e2⟩
  · refine ⟨H0, T, s, σ0, _, k, e1, fun H1 v k1 => ?_⟩
    cases eb : bind pt d s1 with
    | none => rw [eb] at e2; cases e2
    | some s2 =>
      rw [eb] at e2
      cases e2
      exact ⟨H0, T, s1, σ0, d, _, k1, eb, fun σ' H' _ k2 => p σ' H' k2⟩
  · cases e2
    exact ⟨H0, T, s, σ0, _, k, e1, fun H1 C hc k1 => p σ H1 C hc k1⟩
theorem pS_asg {pt : Pat} (h : PE X e (tE X.K X.mg W ra)) (hg : PG X tg (tG X.K pt)) (hs : swapsWithSole [tg] e pos.line X.env = pure false) (hw : swappedStores [tg] e X.env = pure none) (h1 : (assignEach [tg] X.env).map (·.2) = [assign tg X.env]) :
    PS X (.Assign [tg] e pos) (tS X.K X.mg W (asgE ra pt)) := psImp (ps_asg h hg hs hw h1) fun DD σ H q => tAsgOk (fun _ _ _ q => q) q
/-- a, b = e1, e2 -/
def parE (ra rb : SS → Option (O D)) (i j : Nat) (s : SS) : Option (Fl × SS) := bnds (ra s) fun d s => bnds (rb s) fun e s => if i < s.length ∧ j < s.length then some (.nxt, VE.st (VE.st s i d) j e) else none
theorem pS_par {i j : Nat} {x y : Str} {a b : Expr} {px py pt : Pos} {kt k2 pt2} (hc : X.calm = true) (hN : X.N.Nodup) (hi : X.N[i]? = some x) (hj : X.N[j]? = some y) (hij : i ≠ j)
    (hx : X.env.scope.names.lookup x = some .local) (hy : X.env.scope.names.lookup y = some .local) (ha : PE X a (tE X.K X.mg W ra)) (hb : PE X b (tE X.K X.mg W rb)) (h1 : starEach [a, b] X.env = (false, eval a X.env) :: starEach [b] X.env) (h2 : starEach [b] X.env = [(false, eval b X.env)])
    (hw : swappedStores [.Tuple [.Name x px, .Name y py] kt pt] (.Tuple [a, b] k2 pt2) X.env = pure (some [x, y])) :
    PS X (.Assign [.Tuple [.Name x px, .Name y py] kt pt] (.Tuple [a, b] k2 pt2) pos) (tS X.K X.mg W (parE ra rb i j)) := psImp (ps_par hc hN hi hj hij hx hy (pa_cons ha (pa_cons hb pa_nil h2) h1) hw (by rfl)) fun DD σ H q => by
  obtain ⟨H0, T, s, σ0, f, s', k, er, p⟩ := q
  rcases bnds_cases er with ⟨d, s1, e1, e2⟩ | ⟨c, s1, e1, e2⟩
  · refine ⟨H0, T, s, σ0, _, k, e1, fun H1 v k1 => ?_⟩
    rcases bnds_cases e2 with ⟨d2, s2, e3, e4⟩ | ⟨c, s2, e3, e4⟩
    · refine ⟨H0, _, s1, σ0, _, k1, e3, fun H2 w k2 => ?_⟩
      have e4 : (if i < s2.length ∧ j < s2.length then some (Fl.nxt, VE.st (VE.st s2 i d) j d2) else none) = some (f, s') := e4
      split at e4
      · rename_i hh
        cases e4
        refine ⟨v, w, rfl, p _ _ ?_⟩
        have k3 := (k2.permT (List.Perm.swap _ _ _)).store hh.1
        exact k3.store (by rw [st_len]; exact hh.2)
      · cases e4
    · cases e4
      exact ⟨H0, _, s1, σ0, _, k1, e3, fun H2 C hc k2 => p σ H2 C hc k2.tail⟩
  · cases e2
    exact ⟨H0, T, s, σ0, _, k, e1, fun H1 C hc k1 => p σ H1 C hc k1⟩
/-- x[k] = e -/
def rSetA : TSet := fun o i v H Q => rSetL o i v H Q ∨ (∃ a H', o = .ref a ∧ DPut H a i v H' ∧ Q H')
theorem set_A (hu : X.A.units + 1 < cLine) : PSet X rSetA := by
  intro pins s σ H o i v ov iv u Q I ro ri rv h
  rcases h with h | ⟨a, H', rfl, g, q⟩
  · exact set_list pins s σ H o i v ov iv u Q I ro ri rv h
  · cases ro
    exact d_setItem hu I g ri rv fun s' I' => ⟨H', I', q⟩
theorem ixK_some : ∀ {ks : List Key} {k : Key} {j : Nat}, ixK k ks = some j → ks[j]? = some k
  | [], _, _, h => by cases h
  | a :: ks, k, j, h => by
    unfold ixK at h
    split at h
    · rename_i e
      cases h
      simp [e]
    · obtain ⟨j', e, rfl⟩ := map_some' h
      simpa using ixK_some e
theorem ixK_none : ∀ {ks : List Key} {k : Key}, ixK k ks = none → k ∉ ks
  | [], _, _ => by simp
  | a :: ks, k, h => by
    unfold ixK at h
    split at h
    · cases h
    · rename_i e
      have := ixK_none (ks := ks) (k := k) (by cases e : ixK k ks with | none => rfl | some j => rw [e] at h; cases h)
      simp only [List.mem_cons, not_or]
      exact ⟨fun q => e q.symm, this⟩
theorem putK_old {ks : List Key} {vs : List V} {k : Key} {v : V} {j : Nat} (hl : ks.length = vs.length) (nd : ks.Nodup) (h : ks[j]? = some k) : L2.putK (ks.zip vs) k v = ks.zip (vs.set j v) := by
  have hj := (List.getElem?_eq_some_iff.mp h).1
  have hany : ((ks.zip vs).any fun kv => decide (kv.1 = k)) = true := by
    refine List.any_eq_true.mpr ⟨(k, vs[j]'(by omega)), ?_, by simp⟩
    exact List.mem_of_getElem? (zip_get h (List.getElem?_eq_getElem (by omega)))
  unfold L2.putK
  rw [if_pos hany]
  apply List.ext_getElem?
  intro i
  rw [List.getElem?_map]
  by_cases hi : i < ks.length
  · have e1 : ks[i]? = some ks[i] := List.getElem?_eq_getElem hi
    have e2 : vs[i]? = some (vs[i]'(by omega)) := List.getElem?_eq_getElem (by omega)
    rw [zip_get e1 e2]
    by_cases hij : j = i
    · subst hij
      rw [zip_get e1 (List.getElem?_set_self (by omega))]
      rw [e1] at h
      cases h
      simp
    · rw [zip_get e1 (by rw [List.getElem?_set_ne hij]; exact e2)]
      have : ks[i] ≠ k := fun q => hij (L2.nd_ix nd h (by rw [e1, q]))
      simp [this]
  · rw [List.getElem?_eq_none (by simp; omega), List.getElem?_eq_none (by simp; omega)]
    rfl
theorem putK_new {ks : List Key} {vs : List V} {k : Key} {v : V} (hl : ks.length = vs.length) (h : k ∉ ks) : L2.putK (ks.zip vs) k v = (ks ++ [k]).zip (vs ++ [v]) := by
  have hany : ((ks.zip vs).any fun kv => decide (kv.1 = k)) = false := by
    rw [List.any_eq_false]
    intro kv hkv
    have := (List.of_mem_zip (a := kv.1) (b := kv.2) hkv).1
    simp
    intro e
    exact h (e ▸ this)
  unfold L2.putK
  rw [hany, List.zip_append hl]
  rfl
end
end VE

namespace VE
open PySem L2 PyProof.Rows
section
variable {X : Cx} {W : WX} {e c tg : Expr} {pos pos' : Pos} {ra rb rc : SS → Option (O D)} {st : Stmt} {sts sts2 : List Stmt} {r1 r2 : SS → Option (Fl × SS)}
theorem pS_pass : PS X (.Pass pos) (tS X.K X.mg W fun s => some (.nxt, s)) := psImp ps_pass fun DD σ H q => by
  obtain ⟨H0, T, s, σ0, f, s', k, er, p⟩ := q
  cases er
  exact p σ H k
theorem pS_brk : PS X (.Break pos) (tS X.K X.mg W fun s => some (.brk, s)) := psImp ps_break fun DD σ H q => by
  obtain ⟨H0, T, s, σ0, f, s', k, er, p⟩ := q
  cases er
  exact p σ H k
theorem pS_cnt : PS X (.Continue pos) (tS X.K X.mg W fun s => some (.cnt, s)) := psImp ps_continue fun DD σ H q => by
  obtain ⟨H0, T, s, σ0, f, s', k, er, p⟩ := q
  cases er
  exact p σ H k
theorem pS_retN : PS X (.Return none pos) (tS X.K X.mg W fun s => some (.ret .non, s)) := psImp ps_retN fun DD σ H q => by
  obtain ⟨H0, T, s, σ0, f, s', k, er, p⟩ := q
  cases er
  exact p σ H _ k.nonD
theorem pS_ret (h : PE X e (tE X.K X.mg W ra)) : PS X (.Return (some e) pos) (tS X.K X.mg W fun s => bnds (ra s) fun d s => some (.ret d, s)) := psImp (ps_ret h) fun DD σ H q => by
  obtain ⟨H0, T, s, σ0, f, s', k, er, p⟩ := q
  rcases bnds_cases er with ⟨d, s1, e1, e2⟩ | ⟨c, s1, e1, e2⟩
  · cases e2
    exact ⟨H0, T, s, σ0, _, k, e1, fun H1 v k1 => p σ H1 v k1⟩
  · cases e2
    exact ⟨H0, T, s, σ0, _, k, e1, fun H1 C hc k1 => p σ H1 C hc k1⟩
theorem pS_retv {i : Nat} (h : PE X e (tVar i)) : PS X (.Return (some e) pos) (tS X.K X.mg W fun s => (match gt s i with | some d => some (.ret d, pt s i none) | none => none)) := psImp (ps_ret h) fun DD σ H q => by
  obtain ⟨H0, T, s, σ0, f, s', k, er, p⟩ := q
  cases eg : VE.gt s i with
  | none => simp only [eg] at er; cases er
  | some d =>
    simp only [eg] at er
    cases er
    obtain ⟨v, hv, en⟩ := k.gt eg
    refine ⟨v, hv, p σ H v ?_⟩
    exact k.changeZ (d' := none) (T' := (some d, some v) :: T) eg hv ((Sep.focus en).mp k.sep).non
def ifE (rc : SS → Option (O D)) (r1 r2 : SS → Option (Fl × SS)) (s : SS) : Option (Fl × SS) := bnds (rc s) fun d s => (match d with | .bl true => r1 s | .bl false => r2 s | _ => none)
theorem pS_if (hc : PT X c (tT X.K X.mg W rc)) (h1 : PSs X sts (tS X.K X.mg W r1)) (h2 : PSs X sts2 (tS X.K X.mg W r2)) : PS X (.If c sts sts2 pos) (tS X.K X.mg W (ifE rc r1 r2)) := psImp (ps_if hc h1 h2) fun DD σ H q => by
  obtain ⟨H0, T, s, σ0, f, s', k, er, p⟩ := q
  rcases bnds_cases er with ⟨d, s1, e1, e2⟩ | ⟨c, s1, e1, e2⟩
  · refine ⟨H0, T, s, σ0, _, k, e1, fun H1 v k1 => ?_⟩
    cases d with
    | bl b =>
      refine ⟨b, k1.isBl At.hd rfl, ?_⟩
      cases b with
      | true => exact iteT ⟨H0, T, s1, σ0, f, s', k1.tail, e2, p⟩
      | false => exact iteF ⟨H0, T, s1, σ0, f, s', k1.tail, e2, p⟩
    | _ => cases e2
  · cases e2
    exact ⟨H0, T, s, σ0, _, k, e1, fun H1 C hc k1 => p σ H1 C hc k1⟩
theorem pS_whl {w : Nat} (hp : PassesOwn (model X.prog X.w) X.A X.env X.xe) (hc : PT X c (tT X.K X.mg W rc)) (h1 : PSs X sts (tS X.K X.mg W r1)) : PS X (.While c sts [] pos) (tS X.K X.mg W fun s => whlL rc r1 w s) := psImp (ps_while hp hc h1) fun DD σ H q => by
  obtain ⟨H0, T, s, σ0, f, s', k, er, p⟩ := q
  refine ⟨fun m σ H => ∃ s, Ok X.K H0 H T s σ0 σ ∧ whlL rc r1 m s = some (f, s'), ⟨w, s, k, er⟩, ?_⟩
  rintro m σ H ⟨s, k, er⟩
  cases m with
  | zero => cases er
  | succ m =>
    have er : bnds (rc s) (fun t s => match t with
      | .bl true => (match r1 s with
        | some (.nxt, s) => whlL rc r1 m s
        | some (.cnt, s) => whlL rc r1 m s
        | some (.brk, s) => some (.nxt, s)
        | r => r)
      | .bl false => some (.nxt, s)
      | _ => none) = some (f, s') := er
    rcases bnds_cases er with ⟨d, s1, e1, e2⟩ | ⟨c, s1, e1, e2⟩
    · refine ⟨H0, T, s, σ0, _, k, e1, fun H1 v k1 => ?_⟩
      cases d with
      | bl b =>
        refine ⟨b, k1.isBl At.hd rfl, ?_⟩
        cases b with
        | true =>
          have k2 := k1.tail
          refine iteT ⟨fun σ H => ∃ s, Ok X.K H0 H T s σ0 σ ∧ whlL rc r1 m s = some (f, s'), fun σ' H' hN => ⟨m, Nat.lt_succ_self m, hN⟩, ?_⟩
          have e2 : (match r1 s1 with
            | some (.nxt, s) => whlL rc r1 m s
            | some (.cnt, s) => whlL rc r1 m s
            | some (.brk, s) => some (.nxt, s)
            | r => r) = some (f, s') := e2
          cases eb : r1 s1 with
          | none => rw [eb] at e2; cases e2
          | some q =>
            obtain ⟨f1, s2⟩ := q
            rw [eb] at e2
            cases f1 with
            | nxt => exact ⟨H0, T, s1, σ0, _, _, k2, eb, fun σ1 H1 k3 => ⟨_, k3, e2⟩⟩
            | cnt => exact ⟨H0, T, s1, σ0, _, _, k2, eb, fun σ1 H1 k3 => ⟨_, k3, e2⟩⟩
            | brk => cases e2; exact ⟨H0, T, s1, σ0, _, _, k2, eb, fun σ1 H1 k3 => p σ1 H1 k3⟩
            | ret d => cases e2; exact ⟨H0, T, s1, σ0, _, _, k2, eb, fun σ1 H1 v k3 => p σ1 H1 v k3⟩
            | exc c => cases e2; exact ⟨H0, T, s1, σ0, _, _, k2, eb, fun σ1 H1 C hc k3 => p σ1 H1 C hc k3⟩
        | false =>
          cases e2
          exact iteF (p σ H1 k1.tail)
      | _ => cases e2
    · cases e2
      exact ⟨H0, T, s, σ0, _, k, e1, fun H1 C hc k1 => p σ H1 C hc k1⟩
def foE (rt : SS → Option (O (List D))) (pt : Pat) (r1 : SS → Option (Fl × SS)) (s : SS) : Option (Fl × SS) := bnds (rt s) fun xs s => forL (fun x s => match bind pt x s with | some s => r1 s | none => none) xs s
theorem pS_fo {pt : Pat} {rt : SS → Option (O (List D))} (hp : PassesOwn (model X.prog X.w) X.A X.env X.xe) (hc : X.calm = true) (hi : PI X tg e (tIt X.K X.mg W rt)) (hg : PG X tg (tG X.K pt)) (h1 : PSs X sts (tS X.K X.mg W r1))
    (hs : ∀ x, foldedSetIterable e X.env x = pure x) : PS X (.For tg e sts [] pos) (tS X.K X.mg W (foE rt pt r1)) := psImp (ps_for hp hc hi hg h1 hs) fun DD σ H q => by
  obtain ⟨H0, T, s, σ0, f, s', k, er, p⟩ := q
  rcases bnds_cases er with ⟨xs, s1, e1, e2⟩ | ⟨c, s1, e1, e2⟩
  · refine ⟨H0, T, s, σ0, _, k, e1, fun H1 J src S k1 => ?_⟩
    refine ⟨fun i m σ H => m = xs.length - i ∧ i ≤ xs.length ∧ ∃ s, Ok X.K H0 H (src ++ T) s σ0 σ ∧ forL (fun x s => match bind pt x s with | some s => r1 s | none => none) (xs.drop i) s = some (f, s'), ⟨xs.length, by simp, Nat.zero_le _, s1, k1, e2⟩, ?_⟩
    rintro i m σ H ⟨rfl, hi, s, kk, ek⟩
    by_cases hlt : i < xs.length
    · refine .inr ⟨S.go i hlt kk, fun σ H => i + 1 ≤ xs.length ∧ ∃ s, Ok X.K H0 H (src ++ T) s σ0 σ ∧ forL (fun x s => match bind pt x s with | some s => r1 s | none => none) (xs.drop (i + 1)) s = some (f, s'), fun σ' H' hN => ⟨xs.length - (i + 1), by omega, rfl, hN⟩, fun x H' hy => ?_⟩
      have ex : xs[i]? = some xs[i] := List.getElem?_eq_getElem hlt
      have ed : xs.drop i = xs[i] :: xs.drop (i + 1) := List.drop_eq_getElem_cons hlt
      have k2 := S.yld ex kk hy
      rw [ed] at ek
      unfold forL at ek
      cases eb : bind pt xs[i] s with
      | none => simp only [eb] at ek; cases ek
      | some s2 =>
        simp only [eb] at ek
        refine ⟨H0, _, s, σ0, xs[i], s2, k2, eb, fun σ2 H2 _ k3 => ?_⟩
        cases er1 : r1 s2 with
        | none => rw [er1] at ek; cases ek
        | some q =>
          obtain ⟨f1, s3⟩ := q
          rw [er1] at ek
          cases f1 with
          | nxt => exact ⟨H0, _, s2, σ0, _, _, k3, er1, fun σ1 H1 k4 => ⟨by omega, _, k4, ek⟩⟩
          | cnt => exact ⟨H0, _, s2, σ0, _, _, k3, er1, fun σ1 H1 k4 => ⟨by omega, _, k4, ek⟩⟩
          | brk => cases ek; exact ⟨H0, _, s2, σ0, _, _, k3, er1, fun σ1 H1 k4 => p σ1 H1 (k4.sub (X := []))⟩
          | ret d => cases ek; exact ⟨H0, _, s2, σ0, _, _, k3, er1, fun σ1 H1 v k4 => p σ1 H1 v (k4.sub (X := [_]))⟩
          | exc c => cases ek; exact ⟨H0, _, s2, σ0, _, _, k3, er1, fun σ1 H1 C hc k4 => p σ1 H1 C hc (k4.sub (X := []))⟩
    · have e : i = xs.length := by omega
      subst e
      refine .inl ⟨S.stop kk, ?_⟩
      rw [List.drop_length] at ek
      cases ek
      exact p σ H (kk.sub (X := []))
  · cases e2
    exact ⟨H0, T, s, σ0, _, k, e1, fun H1 C hc k1 => p σ H1 C hc k1⟩
def augE (i : Nat) (f : Int → Int → Int) (ra : SS → Option (O D)) (s : SS) : Option (Fl × SS) := match gt s i with
      | some (.int x) => bnds (ra s) fun d s => (match d with
        | .int y => if i < s.length then some (.nxt, VE.st s i (.int (f x y))) else none
        | _ => none)
      | _ => none
theorem pS_aug {i : Nat} {x : Str} {op : Operator} {f : Int → Int → Int} (ho : PIp X op (ipI f)) (hN : X.N.Nodup) (hi : X.N[i]? = some x) (hx : Loc X.env.scope x) (hf : X.fn x = true ∨ X.env.scope.names.lookup x = some .local) (h : PE X e (tE X.K X.mg W ra)) :
    PS X (.AugAssign (.Name x pos') op e pos) (tS X.K X.mg W (augE i f ra)) := psImp (ps_aug hN hi hx h ho hf) fun DD σ H q => by
  obtain ⟨H0, T, s, σ0, fl, s', k, er, p⟩ := q
  unfold augE at er
  cases eg : VE.gt s i with
  | none => rw [eg] at er; cases er
  | some d0 =>
    rw [eg] at er
    cases d0 with
    | int a =>
      obtain ⟨v0, hv0, _⟩ := k.gt eg
      have e0 : v0 = .int a := k.isInt (o := .pl i) (show At T σ (.pl i) v0 from hv0) eg
      subst e0
      refine ⟨_, hv0, ?_⟩
      rcases bnds_cases er with ⟨d, s1, e1, e2⟩ | ⟨c, s1, e1, e2⟩
      · refine ⟨H0, T, s, σ0, _, k, e1, fun H1 v k1 => ?_⟩
        cases d with
        | int b =>
          have e2 : (if i < s1.length then some (Fl.nxt, VE.st s1 i (.int (f a b))) else none) = some (fl, s') := e2
          split at e2
          · rename_i hl
            cases e2
            refine ⟨a, b, rfl, k1.isInt At.hd rfl, p _ _ ?_⟩
            exact (k1.tail.int (i := f a b)).store hl
          · cases e2
        | _ => cases e2
      · cases e2
        exact ⟨H0, T, s, σ0, _, k, e1, fun H1 C hc k1 => p σ H1 C hc k1⟩
    | _ => cases er
end
end VE

namespace VE
open PySem L2 PyProof.Rows
/-! #### multiplication, tests in a row, items stored -/
def rMulA : R2 := fun x y H Q => (rI CMulW fun i j => .int (i * j)) x y H Q ∨ rRep x y H Q
theorem op_mulA {X : Cx} : OpR X (binaryOp .Mult) rMulA := OpR.or op_mulW op_rep
theorem Ok.owned {K : PySem.W.Frag} {H0 H : Hp} {T : List Ent} {s : SS} {σ0 σ : L2.St} (k : Ok K H0 H T s σ0 σ) {o : Op} {q : Addr} {xs : List D} (a : At T σ o (.ref q)) (e : view s o = some (.lst true xs)) :
    ∃ vs, H q = some (.lst vs) ∧ vs.length = xs.length := by
  obtain ⟨R, pm⟩ := k.at a e
  obtain ⟨Hs, fp, s0, s1, ⟨f1, f2, rfl, ⟨w, ew, r⟩, _⟩, _, _⟩ := k.sep.perm pm
  cases ew
  obtain ⟨q', vs, g, e', rfl, h, r⟩ := r
  cases e'
  exact ⟨vs, h, r.len⟩
theorem map_flat {α β : Type} (f : α → β) (l : List α) (n : Nat) : ((List.replicate n l).flatten).map f = (List.replicate n (l.map f)).flatten := by
  induction n with
  | zero => simp
  | succ n ih => simp [List.replicate_succ, ih]
theorem bs_mul {X : Cx} : BS X.K rMulA (binop .mul) := by
  intro H0 H T s σ0 σ x y vx vy d e r Q h ax ay ex ey fe q
  cases d with
  | int i =>
    cases e <;> try (cases fe; done)
    rename_i j
    simp only [binop] at fe
    split at fe
    · rename_i c
      cases fe
      exact .inl ⟨i, j, h.isInt ax ex, h.isInt ay ey, c, q _ _ h.int⟩
    · cases fe
  | lst bb xs =>
    cases e <;> cases bb <;> try (cases fe; done)
    rename_i j
    simp only [binop] at fe
    split at fe
    · rename_i c
      cases fe
      simp only [Bool.and_eq_true, okB_iff] at c
      obtain ⟨a, vs, rfl, rd, hl, k1⟩ := h.items ax ex c.1
      obtain ⟨vs', ha, hl'⟩ := h.owned ax ex
      have ev : vs' = vs := rd_inj (.inl ha) rd
      subst ev
      refine .inr ⟨a, j, vs', rfl, h.isInt ay ey, ha, by omega, by omega, by rw [hl', ← LIM_eq]; exact c.2.2.2, fun p hp => q _ _ ?_⟩
      have k2 := (k1.choose (dw := (List.replicate j.toNat (xs.zip vs')).flatten) (zip_fz c.1) fun z hz => by
        obtain ⟨l, hl, hz⟩ := List.mem_flatten.mp hz
        rw [(List.mem_replicate.mp hl).2] at hz
        exact hz).newL hp
      rw [map_flat, map_flat, mfz hl', msz hl'] at k2
      exact k2
    · cases fe
  | _ => cases fe
section
variable {X : Cx} {W : WX} {a b c e tg o : Expr} {p pos : Pos} {ra rb rc re rk : SS → Option (O D)}
def chE (f f' : Int → Int → Bool) (ra rb rc : SS → Option (O D)) (s : SS) : Option (O D) := bnd (ra s) fun x s => bnd (rb s) fun y s => (match x, y with
      | .int i, .int j => if f i j then bnd (rc s) fun z s => (match z with | .int k => some (.ok (.bl (f' j k)) s) | _ => none) else some (.ok (.bl false) s)
      | _, _ => none)
theorem tChainOk {f f' : Int → Int → Bool} {σ : L2.St} {H : Hp} {Q : VK} (q : tE X.K X.mg W (chE f f' ra rb rc) σ H Q) : tChain (rI0 fun i j => .bl (f i j)) (rI0 fun i j => .bl (f' i j)) (tE X.K X.mg W ra) (tE X.K X.mg W rb) (tE X.K X.mg W rc) σ H Q := by
  obtain ⟨H0, T, s, σ0, o, k, er, p⟩ := q
  rcases bnd_cases er with ⟨d, s1, e1, e2⟩ | ⟨c, s1, e1, e2⟩
  · refine ⟨H0, T, s, σ0, _, k, e1, fun H1 v k1 => ?_⟩
    rcases bnd_cases e2 with ⟨d2, s2, e3, e4⟩ | ⟨c, s2, e3, e4⟩
    · refine ⟨H0, _, s1, σ0, _, k1, e3, fun H2 v2 k2 => ?_⟩
      cases d with
      | int i =>
        cases d2 with
        | int j =>
          have e4 : (if f i j then bnd (rc s2) fun z s => (match z with | .int k => some (O.ok (.bl (f' j k)) s) | _ => none) else some (.ok (.bl false) s2)) = some o := e4
          refine ⟨i, j, k1.isInt At.hd rfl, k2.isInt At.hd rfl, _, rfl, ?_⟩
          have k3 := k2.tail.tail
          cases hf : f i j with
          | true =>
            rw [hf] at e4
            have e4 : bnd (rc s2) (fun z s => (match z with | .int k => some (O.ok (.bl (f' j k)) s) | _ => none)) = some o := e4
            refine iteT ?_
            rcases bnd_cases e4 with ⟨d3, s3, e5, e6⟩ | ⟨c, s3, e5, e6⟩
            · refine ⟨H0, _, s2, σ0, _, k3, e5, fun H3 v3 k4 => ?_⟩
              cases d3 with
              | int l =>
                cases e6
                exact ⟨j, l, k2.isInt At.hd rfl, k4.isInt At.hd rfl, p _ _ k4.tail.bl⟩
              | _ => cases e6
            · cases e6
              exact ⟨H0, _, s2, σ0, _, k3, e5, fun H' C hc k4 => p H' C hc k4⟩
          | false =>
            rw [hf] at e4
            cases e4
            exact iteF (p _ _ k3.bl)
        | _ => cases e4
      | _ => cases d2 <;> cases e4
    · cases e4
      exact ⟨H0, _, s1, σ0, _, k1, e3, fun H' C hc k2 => p H' C hc k2.tail⟩
  · cases e2
    exact ⟨H0, T, s, σ0, _, k, e1, p⟩
theorem pE_chain {op op' : CmpOp} {f f' : Int → Int → Bool} (ho : OpR X (compareOp op) (rI0 fun i j => .bl (f i j))) (ho' : OpR X (compareOp op') (rI0 fun i j => .bl (f' i j))) (ha : PE X a (tE X.K X.mg W ra)) (hb : PE X b (tE X.K X.mg W rb)) (hc : PE X c (tE X.K X.mg W rc))
    (hm : lastMarks [op, op'] [b, c] = false) : PE X (.Compare a [op, op'] [b, c] pos) (tE X.K X.mg W (chE f f' ra rb rc)) := peImp (pe_chain ho ho' ha hb hc hm) fun σ H Q q => tChainOk q
theorem pT_chain {op op' : CmpOp} {f f' : Int → Int → Bool} (ho : OpR X (compareOp op) (rI0 fun i j => .bl (f i j))) (ho' : OpR X (compareOp op') (rI0 fun i j => .bl (f' i j))) (ha : PE X a (tE X.K X.mg W ra)) (hb : PE X b (tE X.K X.mg W rb)) (hc : PE X c (tE X.K X.mg W rc))
    (hm : lastMarks [op, op'] [b, c] = false) : PT X (.Compare a [op, op'] [b, c] pos) (tT X.K X.mg W (chE f f' ra rb rc)) := ptImp (pt_chain ho ho' ha hb hc hm) fun σ H Q q => tChainOk q
def setE (i : Nat) (re rk : SS → Option (O D)) (s : SS) : Option (Fl × SS) := bnds (re s) fun d s => (match gt s i with
      | some _ => bnds (rk s) fun k s => (match gt s i with
        | some c => (match setop c k d with | some c => some (.nxt, pt s i (some c)) | none => none)
        | none => none)
      | none => none)
theorem setop_cases {c k d c' : D} (h : setop c k d = some c') : ∃ xs z j, c = .lst true xs ∧ k = .int z ∧ ixn xs.length z = some j ∧ c' = .lst true (xs.set j d) := by
  unfold setop at h
  split at h
  · obtain ⟨j, e, rfl⟩ := map_some' h
    exact ⟨_, _, j, rfl, rfl, e, rfl⟩
  · cases h
theorem pS_seti {i : Nat} {tpos : Pos} (ho : PE X o (tVar i)) (hk : PE X c (tE X.K X.mg W rk)) (h : PE X e (tE X.K X.mg W re)) (hs : swapsWithSole [.Subscript o c tpos] e pos.line X.env = pure false) (hw : swappedStores [.Subscript o c tpos] e X.env = pure none)
    (h1 : (assignEach [.Subscript o c tpos] X.env).map (·.2) = [assign (.Subscript o c tpos) X.env]) (ha : ∀ v, assign (.Subscript o c tpos) X.env v = (do
      let ov ← holding [v] (eval o X.env)
      let iv ← holding [v, ov] (eval c X.env)
      standAt tpos
      holding [v, ov, iv] (setItem ov iv v)
      release [v, ov, iv] [])) :
    PS X (.Assign [.Subscript o c tpos] e pos) (tS X.K X.mg W (setE i re rk)) := psImp (ps_asg h (pg_sub ho hk set_list ha) hs hw h1) fun DD σ H q => by
  obtain ⟨H0, T, s, σ0, f, s', k, er, p⟩ := q
  rcases bnds_cases er with ⟨d, s1, e1, e2⟩ | ⟨c, s1, e1, e2⟩
  · refine ⟨H0, T, s, σ0, _, k, e1, fun H1 v k1 => ?_⟩
    cases eg : VE.gt s1 i with
    | none => rw [eg] at e2; cases e2
    | some c0 =>
      rw [eg] at e2
      obtain ⟨u, hu, _⟩ := k1.gt eg
      refine ⟨u, hu, ?_⟩
      rcases bnds_cases e2 with ⟨dk, s2, e3, e4⟩ | ⟨c, s2, e3, e4⟩
      · refine ⟨H0, _, s1, σ0, _, k1, e3, fun H2 w k2 => ?_⟩
        have e4 : (match VE.gt s2 i with
          | some c => (match setop c dk d with | some c => some (Fl.nxt, pt s2 i (some c)) | none => none)
          | none => none) = some (f, s') := e4
        cases eg2 : VE.gt s2 i with
        | none => rw [eg2] at e4; cases e4
        | some c1 =>
          rw [eg2] at e4
          have e4 : (match setop c1 dk d with | some c => some (Fl.nxt, pt s2 i (some c)) | none => none) = some (f, s') := e4
          cases es : setop c1 dk d with
          | none => rw [es] at e4; cases e4
          | some c2 =>
            rw [es] at e4
            cases e4
            obtain ⟨xs, z, j, rfl, rfl, ej, rfl⟩ := setop_cases es
            have ew : w = .int z := k2.isInt At.hd rfl
            subst ew
            obtain ⟨u2, hu2, en⟩ := k2.gt eg2
            rw [hu] at hu2
            cases hu2
            have k3 := k2.tail
            obtain ⟨u2, hu2, en⟩ := k3.gt eg2
            rw [hu] at hu2
            cases hu2
            have zz := (Sep.focus en).mp k3.sep
            have zz : Sep X.K H2 H0 ((some (.lst true xs), some u) :: (VE.es [(d, v)] ++ (T ++ (ents s2 σ).eraseIdx i))) := zz
            obtain ⟨a, vs, ea, ha, hl, upd'⟩ := zz.lupd
            cases ea
            have hj : j < xs.length := by
              have e := ej
              unfold ixn at e
              split at e
              · split at e
                · cases e; omega
                · cases e
              · split at e
                · cases e; omega
                · cases e
            refine ⟨a, vs, z, j, rfl, rfl, ha, by rw [← ixn_eq, hl]; exact ej, p _ _ ?_⟩
            refine k3.changeZ (T' := T) eg2 hu ?_
            have pm : ((xs.zip vs) ++ [(d, v)]).Perm ((xs.zip vs).set j (d, v) ++ [(xs[j], vs[j]'(by omega))]) := by
              have e0 : (xs.zip vs)[j]? = some (xs[j], vs[j]'(by omega)) := zip_get (List.getElem?_eq_getElem hj) (List.getElem?_eq_getElem (by omega))
              have p1 := perm_erase e0
              have e1 : ((xs.zip vs).set j (d, v))[j]? = some (d, v) := List.getElem?_set_self (by simp; omega)
              have p2 := perm_erase e1
              have e3 : ((xs.zip vs).set j (d, v)).eraseIdx j = (xs.zip vs).eraseIdx j := List.eraseIdx_set_eq
              rw [e3] at p2
              refine (p1.append_right _).trans ?_
              refine List.Perm.trans ?_ (p2.symm.append_right _)
              show ((xs[j], vs[j]'(by omega)) :: ((xs.zip vs).eraseIdx j ++ [(d, v)])).Perm ((d, v) :: ((xs.zip vs).eraseIdx j ++ [(xs[j], vs[j]'(by omega))]))
              refine ((List.perm_append_comm).cons _).trans ?_
              refine (List.Perm.swap _ _ _).trans ?_
              exact (List.perm_append_comm (l₁ := [(xs[j], vs[j]'(by omega))])).cons _
            have z2 := upd' _ _ pm
            rw [List.map_set, List.map_set, mfz hl, msz hl] at z2
            exact (z2.perm (List.Perm.swap _ _ _)).drop
      · cases e4
        exact ⟨H0, _, s1, σ0, _, k1, e3, fun H' C hc k2 => p _ H' C hc k2.tail⟩
  · cases e2
    exact ⟨H0, T, s, σ0, _, k, e1, fun H1 C hc k1 => p σ H1 C hc k1⟩
end
end VE

namespace VE
open PySem L2 PyProof.Rows
abbrev Phi := Nat → List D → Option RC
abbrev JE (X : Cx) (W : WX) (Φ : Phi) (e : Expr) (i : E) : Prop := PE X e (tE X.K X.mg W (ev Φ i))
abbrev JO (X : Cx) (W : WX) (Φ : Phi) (e : Expr) (i : E) : Prop := PE X e (tO X.K X.mg W (evo i (ev Φ i)))
abbrev JT (X : Cx) (W : WX) (Φ : Phi) (e : Expr) (i : E) : Prop := PT X e (tT X.K X.mg W (ev Φ i))
abbrev JW (X : Cx) (W : WX) (Φ : Phi) (e : Expr) (i : E) : Prop := PW X e (tT X.K X.mg W (ev Φ i))
abbrev JA (X : Cx) (W : WX) (Φ : Phi) (e : List Expr) (i : Es) : Prop := PA X e (tEs X.K X.mg W (evs Φ i))
abbrev JP (X : Cx) (W : WX) (Φ : Phi) (e : List Expr) (i : Es) : Prop := PA X e (tOs X.K X.mg W (evos Φ i))
abbrev JI (X : Cx) (W : WX) (Φ : Phi) (tg e : Expr) (i : It) : Prop := PI X tg e (tIt X.K X.mg W (evt Φ i))
abbrev JN (X : Cx) (W : WX) (Φ : Phi) (e : Option Expr) (i : Eo) : Prop := PO X e (tI X.K X.mg W (evi Φ i))
abbrev JS (X : Cx) (W : WX) (Φ : Phi) (w : Nat) (e : Stmt) (i : S) : Prop := PS X e (tS X.K X.mg W (ex Φ w i))
abbrev JSs (X : Cx) (W : WX) (Φ : Phi) (w : Nat) (e : List Stmt) (i : Ss) : Prop := PSs X e (tS X.K X.mg W (exs Φ w i))
/-- what the whole def's context gives -/
structure Cox (X : Cx) (W : WX) : Prop where
  calm : X.calm = true
  tk : Takes X W
  nd : X.N.Nodup
  own : PassesOwn (model X.prog X.w) X.A X.env X.xe
  un : X.A.units + 65 < cLine
theorem Cox.un1 {X : Cx} {W : WX} (c : Cox X W) : X.A.units + 1 < cLine := by have := c.un; omega
def Cal (X : Cx) (x : Str) (ar : Nat) (g : List D → Option RC) : Prop := ∃ (k : Nat) (f : Addr) (fd : FuncData) (ps : List Str),
  FnOk X.prog X.w X.K X.mg X.base (L2.CX X.prog X.w) k f fd ps (spR X.K X.mg ar g) ∧ Room k X.A ∧ X.mg x = some (.ref f) ∧ PySem.W.keepIn X.K (.ref f) = true ∧ Binds X.K fd ps []
section
variable {X : Cx} {W : WX} {Φ : Phi} {w : Nat} {a b c e tg o : Expr} {p pos pos' apos cpos p2 : Pos} {ia ib ic ie : E} {es : List Expr} {is : Es} {rest : List Expr} {st : Stmt} {sts sts2 : List Stmt} {i1 : S} {j1 j2 : Ss} {x : Str} {i : Nat} {pt : Pat} {it : It} {lo hi : Option Expr} {ilo ihi : Eo}
theorem e_nev : JE X W Φ e .nev := ⟨fun _ _ _ _ _ _ q => by obtain ⟨_, _, _, _, _, _, er, _⟩ := q; cases er⟩
theorem t_nev : JT X W Φ e .nev := ⟨fun _ _ _ _ _ _ q => by obtain ⟨_, _, _, _, _, _, er, _⟩ := q; cases er⟩
theorem s_nev : JS X W Φ w st .nev := ⟨fun _ _ _ _ _ _ q => by obtain ⟨_, _, _, _, _, _, _, er, _⟩ := q; cases er⟩
theorem e_var (i : Nat) (hN : X.N[i]? = some x := by rfl) (hv : Vis X.env.scope x := by first | exact Or.inl rfl | exact Or.inr (Or.inl rfl) | exact Or.inr (Or.inr rfl)) (hd : (x == ("__debug__" : Str)) = false := by decide) (hcd : (x == ("__classdict__" : Str)) = false := by decide) : JE X W Φ (.Name x pos) (.var i) := pE_var (pe_var hN hv hd hcd) fun _ => rfl
theorem o_var (i : Nat) (hN : X.N[i]? = some x := by rfl) (hv : Vis X.env.scope x := by first | exact Or.inl rfl | exact Or.inr (Or.inl rfl) | exact Or.inr (Or.inr rfl)) (hd : (x == ("__debug__" : Str)) = false := by decide) (hcd : (x == ("__classdict__" : Str)) = false := by decide) : JO X W Φ (.Name x pos) (.var i) := pO_var (pe_var hN hv hd hcd) fun _ => rfl
def nVar : E → Bool
  | .var _ => false
  | _ => true
theorem o_val (h : JE X W Φ e ie) (hn : nVar ie = true) : JO X W Φ e ie := by
  cases ie <;> first | (cases hn; done) | exact pO_val h
theorem e_int {j : Nat} {n : Int} : JE X W Φ (.Constant (.int n) j pos) (.lit (.int n)) := pE_lit pe_int fun _ _ => ⟨rfl, rfl⟩
theorem e_bl {j : Nat} {n : Bool} : JE X W Φ (.Constant (.bool n) j pos) (.lit (.bl n)) := pE_lit pe_bl fun _ _ => ⟨rfl, rfl⟩
theorem e_str {j : Nat} {n : Str} : JE X W Φ (.Constant (.str n) j pos) (.lit (.str n)) := pE_lit pe_str fun _ _ => ⟨rfl, rfl⟩
theorem e_non {j : Nat} : JE X W Φ (.Constant .none j pos) (.lit .non) := pE_lit pe_non fun _ _ => ⟨rfl, rfl⟩
theorem e_globI {n : Int} (hg : Gl X x) (hm : ∃ t, X.mg x = some (.int n t)) (hd : (x == ("__debug__" : Str)) = false) : JE X W Φ (.Name x pos) (.glob x (.int n)) := by
  obtain ⟨t, hm⟩ := hm
  exact pE_lit (d := .int n) (pe_glob (v := .int n) hg hm ⟨t, rfl⟩ hd) fun _ _ => ⟨rfl, rfl⟩
theorem e_neg (h : JE X W Φ a ia) : JE X W Φ (.UnaryOp .USub a pos) (.neg ia) := pE_neg h
theorem e_not (h : JE X W Φ a ia) (h2 : JT X W Φ a ia) : JE X W Φ (.UnaryOp .Not a pos) (.inv ia) := pE_inv h h2
theorem t_not (h : JT X W Φ a ia) : JT X W Φ (.UnaryOp .Not a pos) (.inv ia) := pT_inv h
theorem e_bin {op : Operator} {r : R2} {q : BO} (ho : OpR X (binaryOp op) r) (bs : BS X.K r (binop q)) (h1 : JO X W Φ a ia) (h2 : JO X W Φ b ib) : JE X W Φ (.BinOp a op b pos) (.bin q ia ib) := pE_bin ho bs h1 h2
theorem e_cmp {op : CmpOp} {r : R2} {q : CO} (ho : OpR X (compareOp op) r) (bs : BS X.K r (cmpop q)) (h1 : JO X W Φ a ia) (h2 : JO X W Φ b ib) (hm : behindInMarks op b = false) : JE X W Φ (.Compare a [op] [b] pos) (.cmp q ia ib) := pE_cmp ho bs h1 h2 hm
theorem t_cmp {op : CmpOp} {r : R2} {q : CO} (ho : OpR X (compareOp op) r) (bs : BS X.K r (cmpop q)) (h1 : JO X W Φ a ia) (h2 : JO X W Φ b ib) (hm : behindInMarks op b = false) : JT X W Φ (.Compare a [op] [b] pos) (.cmp q ia ib) := pT_cmp ho bs h1 h2 hm
theorem t_val (h : JE X W Φ e ie) (he : ∀ whole, isTrue e X.env whole = (do let v ← whole; standAt e.pos; holding [v] (truthy v))) : JT X W Φ e ie := pT_val h he
/-! the operators -/
theorem e_add (h1 : JO X W Φ a ia) (h2 : JO X W Φ b ib) : JE X W Φ (.BinOp a .Add b pos) (.bin .add ia ib) := e_bin op_addA bs_add h1 h2
theorem e_sub (h1 : JO X W Φ a ia) (h2 : JO X W Φ b ib) : JE X W Φ (.BinOp a .Sub b pos) (.bin .sub ia ib) := e_bin op_sub bs_sub h1 h2
theorem e_mul (h1 : JO X W Φ a ia) (h2 : JO X W Φ b ib) : JE X W Φ (.BinOp a .Mult b pos) (.bin .mul ia ib) := e_bin op_mulA bs_mul h1 h2
theorem e_div (h1 : JO X W Φ a ia) (h2 : JO X W Φ b ib) : JE X W Φ (.BinOp a .FloorDiv b pos) (.bin .div ia ib) := e_bin op_fdivW bs_div h1 h2
theorem e_mod (h1 : JO X W Φ a ia) (h2 : JO X W Φ b ib) : JE X W Φ (.BinOp a .Mod b pos) (.bin .mod ia ib) := e_bin op_mod bs_mod h1 h2
theorem e_pow (h1 : JO X W Φ a ia) (h2 : JO X W Φ b ib) : JE X W Φ (.BinOp a .Pow b pos) (.bin .pow ia ib) := e_bin op_pow bs_pow h1 h2
theorem e_shl (h1 : JO X W Φ a ia) (h2 : JO X W Φ b ib) : JE X W Φ (.BinOp a .LShift b pos) (.bin .shl ia ib) := e_bin op_shl bs_shl h1 h2
/-- a comparison's operator -/
structure CmpR (X : Cx) (op : CmpOp) (q : CO) (sane : Bool) : Prop where
  ex : ∃ r : R2, OpR X (compareOp op) r ∧ BS X.K r (cmpop q)
  sn : sane = true → op ≠ .In ∧ op ≠ .NotIn
theorem CmpR.bm {op : CmpOp} {q : CO} (h : CmpR X op q true) (b : Expr) : behindInMarks op b = false := nomark b (h.sn rfl).1 (h.sn rfl).2
theorem c_lt : CmpR X .Lt .lt true := ⟨⟨_, op_lt, bs_lt⟩, fun _ => ⟨by decide, by decide⟩⟩
theorem c_le : CmpR X .LtE .le true := ⟨⟨_, op_le, bs_le⟩, fun _ => ⟨by decide, by decide⟩⟩
theorem c_gt : CmpR X .Gt .gt true := ⟨⟨_, op_gt, bs_gt⟩, fun _ => ⟨by decide, by decide⟩⟩
theorem c_ge : CmpR X .GtE .ge true := ⟨⟨_, op_ge, bs_ge⟩, fun _ => ⟨by decide, by decide⟩⟩
theorem c_eq (C : Cox X W) : CmpR X .Eq .eq true := ⟨⟨_, op_eqD (by have := C.un; omega), bs_eq⟩, fun _ => ⟨by decide, by decide⟩⟩
theorem c_ne (C : Cox X W) : CmpR X .NotEq .ne true := ⟨⟨_, op_neD (by have := C.un; omega), bs_ne⟩, fun _ => ⟨by decide, by decide⟩⟩
theorem c_isN : CmpR X .Is .isN true := ⟨⟨_, op_isN, bs_isN⟩, fun _ => ⟨by decide, by decide⟩⟩
theorem c_isnN : CmpR X .IsNot .isnN true := ⟨⟨_, op_notN, bs_isnN⟩, fun _ => ⟨by decide, by decide⟩⟩
theorem c_in (C : Cox X W) : CmpR X .In .isin false := ⟨⟨_, op_inA (neg := false) rfl C.un, bs_in false⟩, fun h => by cases h⟩
theorem c_nin (C : Cox X W) : CmpR X .NotIn .nin false := ⟨⟨_, op_inA (neg := true) rfl C.un, bs_in true⟩, fun h => by cases h⟩
theorem e_c {op : CmpOp} {q : CO} (h : CmpR X op q true) (h1 : JO X W Φ a ia) (h2 : JO X W Φ b ib) : JE X W Φ (.Compare a [op] [b] pos) (.cmp q ia ib) := by
  obtain ⟨r, ho, bs⟩ := h.ex
  exact e_cmp ho bs h1 h2 (h.bm b)
theorem t_c {op : CmpOp} {q : CO} (h : CmpR X op q true) (h1 : JO X W Φ a ia) (h2 : JO X W Φ b ib) : JT X W Φ (.Compare a [op] [b] pos) (.cmp q ia ib) := by
  obtain ⟨r, ho, bs⟩ := h.ex
  exact t_cmp ho bs h1 h2 (h.bm b)
theorem e_ci {op : CmpOp} {q : CO} (h : CmpR X op q false) (h1 : JO X W Φ a ia) (h2 : JO X W Φ b ib) (hm : behindInMarks op b = false) : JE X W Φ (.Compare a [op] [b] pos) (.cmp q ia ib) := by
  obtain ⟨r, ho, bs⟩ := h.ex
  exact e_cmp ho bs h1 h2 hm
theorem t_ci {op : CmpOp} {q : CO} (h : CmpR X op q false) (h1 : JO X W Φ a ia) (h2 : JO X W Φ b ib) (hm : behindInMarks op b = false) : JT X W Φ (.Compare a [op] [b] pos) (.cmp q ia ib) := by
  obtain ⟨r, ho, bs⟩ := h.ex
  exact t_cmp ho bs h1 h2 hm
/-! two in a row -/
structure ChR (X : Cx) (op : CmpOp) (q : CO) (f : Int → Int → Bool) : Prop where
  op : OpR X (compareOp op) (rI0 fun i j => .bl (f i j))
  cm : ∀ i j, cmpop q (.int i) (.int j) = some (.bl (f i j))
theorem h_lt : ChR X .Lt .lt (fun i j => decide (i < j)) := ⟨op_lt, fun _ _ => rfl⟩
theorem h_le : ChR X .LtE .le (fun i j => decide (i ≤ j)) := ⟨op_le, fun _ _ => rfl⟩
theorem h_gt : ChR X .Gt .gt (fun i j => decide (j < i)) := ⟨op_gt, fun _ _ => rfl⟩
theorem h_ge : ChR X .GtE .ge (fun i j => decide (j ≤ i)) := ⟨op_ge, fun _ _ => rfl⟩
theorem ev_chain {q q' : CO} {f f' : Int → Int → Bool} (hq : ∀ i j, cmpop q (.int i) (.int j) = some (.bl (f i j))) (hq' : ∀ i j, cmpop q' (.int i) (.int j) = some (.bl (f' i j))) : ev Φ (.chain q q' ia ib ic) = chE f f' (ev Φ ia) (ev Φ ib) (ev Φ ic) := by
  funext s
  show bnd (ev Φ ia s) _ = bnd (ev Φ ia s) _
  cases ev Φ ia s with
  | none => rfl
  | some r =>
    cases r with
    | ex c s => rfl
    | ok d s =>
      show bnd (ev Φ ib s) _ = bnd (ev Φ ib s) _
      cases ev Φ ib s with
      | none => rfl
      | some r =>
        cases r with
        | ex c s => rfl
        | ok e s =>
          cases d <;> try rfl
          rename_i i
          cases e <;> try rfl
          rename_i j
          show (match cmpop q (.int i) (.int j) with
            | some (.bl true) => bnd (ev Φ ic s) fun z s => (match z with | .int k => up (cmpop q' (.int j) (.int k)) s | _ => none)
            | some (.bl false) => some (O.ok (.bl false) s)
            | _ => none) = if f i j then bnd (ev Φ ic s) fun z s => (match z with | .int k => some (O.ok (.bl (f' j k)) s) | _ => none) else some (.ok (.bl false) s)
          rw [hq]
          cases f i j with
          | false => rfl
          | true =>
            show bnd (ev Φ ic s) _ = bnd (ev Φ ic s) _
            cases ev Φ ic s with
            | none => rfl
            | some r =>
              cases r with
              | ex c s => rfl
              | ok z s =>
                cases z <;> try rfl
                rename_i k
                show up (cmpop q' (.int j) (.int k)) s = _
                rw [hq']
                rfl
theorem e_chain {op op' : CmpOp} {q q' : CO} {f f' : Int → Int → Bool} (h : ChR X op q f) (h' : ChR X op' q' f') (ha : JE X W Φ a ia) (hb : JE X W Φ b ib) (hc : JE X W Φ c ic) (hm : lastMarks [op, op'] [b, c] = false) : JE X W Φ (.Compare a [op, op'] [b, c] pos) (.chain q q' ia ib ic) := by
  unfold JE
  rw [ev_chain h.cm h'.cm]
  exact pE_chain h.op h'.op ha hb hc hm
theorem t_chain {op op' : CmpOp} {q q' : CO} {f f' : Int → Int → Bool} (h : ChR X op q f) (h' : ChR X op' q' f') (ha : JE X W Φ a ia) (hb : JE X W Φ b ib) (hc : JE X W Φ c ic) (hm : lastMarks [op, op'] [b, c] = false) : JT X W Φ (.Compare a [op, op'] [b, c] pos) (.chain q q' ia ib ic) := by
  unfold JT
  rw [ev_chain h.cm h'.cm]
  exact pT_chain h.op h'.op ha hb hc hm
/-! and, or, if -/
theorem e_and (h1 : JE X W Φ a ia) (h2 : JE X W Φ (.BoolOp .And (b :: rest) pos) ib) : JE X W Φ (.BoolOp .And (a :: b :: rest) pos) (.and ia ib) := pE_and h1 h2
theorem e_or (h1 : JE X W Φ a ia) (h2 : JE X W Φ (.BoolOp .Or (b :: rest) pos) ib) : JE X W Φ (.BoolOp .Or (a :: b :: rest) pos) (.or ia ib) := pE_or h1 h2
theorem e_one {op : BoolOp} (h : JE X W Φ a ia) : JE X W Φ (.BoolOp op [a] pos) ia := pe_one h
theorem w_and (h1 : JT X W Φ a ia) (h2 : JW X W Φ (.BoolOp .And (b :: rest) pos) ib) : JW X W Φ (.BoolOp .And (a :: b :: rest) pos) (.and ia ib) := pW_and h1 h2
theorem w_or (h1 : JT X W Φ a ia) (h2 : JW X W Φ (.BoolOp .Or (b :: rest) pos) ib) : JW X W Φ (.BoolOp .Or (a :: b :: rest) pos) (.or ia ib) := pW_or h1 h2
theorem w_and1 (h : JT X W Φ a ia) : JW X W Φ (.BoolOp .And [a] pos) ia := pw_and1 h
theorem w_or1 (h : JT X W Φ a ia) : JW X W Φ (.BoolOp .Or [a] pos) ia := pw_or1 h
theorem t_w (h : JW X W Φ e ie) : JT X W Φ e ie := h.pt
theorem e_ite (h0 : JT X W Φ c ic) (h1 : JE X W Φ a ia) (h2 : JE X W Φ b ib) : JE X W Φ (.IfExp c a b pos) (.ite ic ia ib) := pE_ite h0 h1 h2
/-! displays, items -/
theorem a_nil : JA X W Φ [] .nil := pA_nil
theorem a_cons (h1 : JE X W Φ e ie) (h2 : JA X W Φ es is) (hs : starEach (e :: es) X.env = (false, eval e X.env) :: starEach es X.env) : JA X W Φ (e :: es) (.cons ie is) := pA_cons h1 h2 hs
theorem p_nil : JP X W Φ [] .nil := pOs_nil
theorem p_cons (h1 : JO X W Φ e ie) (h2 : JP X W Φ es is) (hs : starEach (e :: es) X.env = (false, eval e X.env) :: starEach es X.env) : JP X W Φ (e :: es) (.cons ie is) := pOs_cons h1 h2 hs
theorem e_tup {j : Nat} (h : JA X W Φ es is) : JE X W Φ (.Tuple es j pos) (.tup is) := pE_tup h
theorem e_lst (h : JA X W Φ es is) : JE X W Φ (.List es pos) (.lst is) := pE_lst h
theorem e_ix (C : Cox X W) (h1 : JO X W Φ a ia) (h2 : JE X W Φ b ib) (hs : notSl b = true) : JE X W Φ (.Subscript a b pos) (.ix ia ib) := pE_ix C.un1 h1 h2 hs
theorem n_no : JN X W Φ none .no := pI_no
theorem n_so (h : JE X W Φ e ie) : JN X W Φ (some e) (.so ie) := pI_so h
theorem e_sl (h1 : JO X W Φ a ia) (h2 : JN X W Φ lo ilo) (h3 : JN X W Φ hi ihi) : JE X W Φ (.Subscript a (.Slice lo hi none p2) pos) (.sl ia ilo ihi) := pE_sl h1 h2 h3
theorem e_rev {k : Nat} {p1 p2 p3 : Pos} (h : JO X W Φ a ia) : JE X W Φ (.Subscript a (.Slice none none (some (.UnaryOp .USub (.Constant (.int 1) k p1) p2)) p3) pos) (.rev ia) := pE_rev h
/-! calls -/
def lenE : Es → Nat
  | .nil => 0
  | .cons _ r => lenE r + 1
theorem evos_len : ∀ {is : Es} {s : SS} {ops : List Op} {s' : SS}, evos Φ is s = some (.ok ops s') → ops.length = lenE is
  | .nil, s, ops, s', h => by cases h; rfl
  | .cons e r, s, ops, s', h => by
    have h : bnd (evo e (ev Φ e) s) (fun d s => bnd (evos Φ r s) fun ds s => some (O.ok (d :: ds) s)) = some (.ok ops s') := h
    rcases bnd_cases h with ⟨d, s1, h1, h2⟩ | ⟨_, _, _, h2⟩
    · rcases bnd_cases h2 with ⟨ds, s2, h3, h4⟩ | ⟨_, _, _, h4⟩
      · cases h4
        simp [lenE, evos_len h3]
      · cases h4
    · cases h2
theorem e_call {f : Nat} (C : Cox X W) (hc : Cal X x (e :: es).length (Φ f)) (hg : Gl X x) (ha : JP X W Φ (e :: es) is) (hdb : (x == ("__debug__" : Str)) = false)
    (he : starEach (e :: es) X.env = (false, eval e X.env) :: starEach es X.env) (hpl : (backTo pos (starEach es X.env)).any (·.1) = false) (hl : lenE is = (e :: es).length) :
    JE X W Φ (.Call (.Name x p) (e :: es) [] pos) (.call f is) := by
  obtain ⟨k, g, fd, ps, F, hr, hm, hk, hb⟩ := hc
  exact pE_call F hr hg hm hk hb C.tk ha hdb he hpl fun s ops s' h => (evos_len h).trans hl
theorem e_blt {r : List V → Hp → VK → Prop} {q : PR} {id : String} (hc : CallR X (.builtin id) r) (cs : CS X.K r (prim q)) (hg : Gl X x) (hm : X.mg x = none) (hv : bootBuiltins x = some (.builtin id)) (hn : x ≠ "__name__") (hdb : (x == ("__debug__" : Str)) = false) (ha : JP X W Φ (e :: es) is)
    (he : starEach (e :: es) X.env = (false, eval e X.env) :: starEach es X.env) (hpl : (backTo pos (starEach es X.env)).any (·.1) = false) : JE X W Φ (.Call (.Name x p) (e :: es) [] pos) (.prim q is) := pE_callB hc cs hg hm hv ha hn hdb he hpl
theorem e_typ {r : List V → Hp → VK → Prop} {q : PR} {id : String} (hc : CallR X (.type id) r) (cs : CS X.K r (prim q)) (hg : Gl X x) (hm : X.mg x = none) (hv : bootBuiltins x = some (.type id)) (hn : x ≠ "__name__") (hdb : (x == ("__debug__" : Str)) = false) (ha : JP X W Φ (e :: es) is)
    (he : starEach (e :: es) X.env = (false, eval e X.env) :: starEach es X.env) (hpl : (backTo pos (starEach es X.env)).any (·.1) = false) : JE X W Φ (.Call (.Name x p) (e :: es) [] pos) (.prim q is) := pE_callT hc cs hg hm hv ha hn hdb he hpl
/-- a built-in function by its name -/
structure BF (X : Cx) (x : Str) (q : PR) : Prop where
  ex : (∃ r id, CallR X (.builtin id) r ∧ CS X.K r (prim q) ∧ bootBuiltins x = some (.builtin id)) ∨ (∃ r id, CallR X (.type id) r ∧ CS X.K r (prim q) ∧ bootBuiltins x = some (.type id))
  nm : x ≠ "__name__" ∧ (x == ("__debug__" : Str)) = false
theorem f_len : BF X "len" .len := ⟨.inl ⟨_, _, cr_lenA, cs_len, PySem.boot_len⟩, by decide +kernel⟩
theorem f_abs : BF X "abs" .abs := ⟨.inl ⟨_, _, call_abs, cs_abs, by decide +kernel⟩, by decide +kernel⟩
theorem f_min2 (C : Cox X W) : BF X "min" .min2 := ⟨.inl ⟨_, _, call_min2 C.calm, cs_min2, by decide +kernel⟩, by decide +kernel⟩
theorem f_max2 (C : Cox X W) : BF X "max" .max2 := ⟨.inl ⟨_, _, call_max2 C.calm, cs_max2, by decide +kernel⟩, by decide +kernel⟩
theorem f_min1 (C : Cox X W) : BF X "min" .min1 := ⟨.inl ⟨_, _, cr_min C.calm, cs_min1, by decide +kernel⟩, by decide +kernel⟩
theorem f_max1 (C : Cox X W) : BF X "max" .max1 := ⟨.inl ⟨_, _, cr_max C.calm, cs_max1, by decide +kernel⟩, by decide +kernel⟩
theorem f_sum (C : Cox X W) : BF X "sum" .sum := ⟨.inl ⟨_, _, cr_sum C.calm, cs_sum C.calm, by decide +kernel⟩, by decide +kernel⟩
theorem f_all (C : Cox X W) : BF X "all" .all := ⟨.inl ⟨_, _, cr_all C.calm, cs_all, by decide +kernel⟩, by decide +kernel⟩
theorem f_any (C : Cox X W) : BF X "any" .any := ⟨.inl ⟨_, _, cr_any C.calm, cs_any, by decide +kernel⟩, by decide +kernel⟩
theorem f_sorted (C : Cox X W) : BF X "sorted" .sorted := ⟨.inl ⟨_, _, cr_sortedA C.un, cs_sorted, by decide +kernel⟩, by decide +kernel⟩
theorem f_int : BF X "int" .int := ⟨.inr ⟨_, _, call_int1, cs_int, by decide +kernel⟩, by decide +kernel⟩
theorem f_list : BF X "list" .list := ⟨.inr ⟨_, _, call_list_of, cs_list, by decide +kernel⟩, by decide +kernel⟩
theorem f_tuple : BF X "tuple" .tuple := ⟨.inr ⟨_, _, call_tuple_of, cs_tuple, by decide +kernel⟩, by decide +kernel⟩
theorem e_f {q : PR} (h : BF X x q) (hm : X.mg x = none) (hg : Gl X x) (ha : JP X W Φ (e :: es) is)
    (he : starEach (e :: es) X.env = (false, eval e X.env) :: starEach es X.env) (hpl : (backTo pos (starEach es X.env)).any (·.1) = false) : JE X W Φ (.Call (.Name x p) (e :: es) [] pos) (.prim q is) := by
  rcases h.ex with ⟨r, id, hc, cs, hv⟩ | ⟨r, id, hc, cs, hv⟩
  · exact e_blt hc cs hg hm hv h.nm.1 h.nm.2 ha he hpl
  · exact e_typ hc cs hg hm hv h.nm.1 h.nm.2 ha he hpl
theorem e_isi {t : TY} (hg : Gl X "isinstance") (hm : X.mg "isinstance" = none) (hg2 : Gl X t.nm) (hm2 : X.mg t.nm = none) (h : JO X W Φ a ia) (hs : starEach [a, .Name t.nm p2] X.env = (false, eval a X.env) :: starEach [.Name t.nm p2] X.env) :
    JE X W Φ (.Call (.Name "isinstance" p) [a, .Name t.nm p2] [] pos) (.isi ia t) := pE_isi hg hm hg2 hm2 h hs
theorem e_lrg {p2 pos2 : Pos} (C : Cox X W) (hg : Gl X "list") (hm : X.mg "list" = none) (hg2 : Gl X "range") (hm2 : X.mg "range" = none) (h : JE X W Φ a ia) (ha : starEach [a] X.env = (false, eval a X.env) :: starEach [] X.env)
    (he : starEach [.Call (.Name "range" p2) [a] [] pos2] X.env = [(false, eval (.Call (.Name "range" p2) [a] [] pos2) X.env)]) :
    JE X W Φ (.Call (.Name "list" p) [.Call (.Name "range" p2) [a] [] pos2] [] pos) (.lrg ia) := by
  refine peImp (pe_listRg C.calm hg hm (prg_1 hg2 hm2 h ha) he) fun σ H Q q => ?_
  obtain ⟨H0, T, s, σ0, o, k, er, pp⟩ := q
  have er : bnd (ev Φ ia s) (fun d s => (match d with | .int j => if okB (-(2 ^ 62) ≤ j ∧ j ≤ (LIM : Int)) then some (O.ok (.lst true (rng 0 j.toNat)) s) else none | _ => none)) = some o := er
  rcases bnd_cases er with ⟨d, s1, e1, e2⟩ | ⟨c, s1, e1, rfl⟩
  · cases d with
    | int j =>
      have e2 : (if okB (-(2 ^ 62) ≤ j ∧ j ≤ (LIM : Int)) then some (O.ok (.lst true (rng 0 j.toNat)) s1) else none) = some o := e2
      split at e2
      · rename_i c
        have c := okB_iff.mp c
        cases e2
        have hL : (LIM : Int) = 16777216 := rfl
        refine ⟨H0, T, s, σ0, _, k, e1, fun H1 v k1 => ⟨j, k1.isInt At.hd rfl, ⟨by omega, by omega, by omega, by omega, by omega⟩, fun r hr => pp _ _ ?_⟩⟩
        have k2 : Ok X.K H0 H1 (es ((List.range j.toNat).map fun i : Nat => (D.int (0 + (i : Int)), V.int (0 + (i : Int)))) ++ T) s1 σ0 σ := by
          have := k1.tail.intEs ((List.range j.toNat).map fun i : Nat => 0 + (i : Int))
          rwa [List.map_map] at this
        have k3 := k2.newL hr
        rw [List.map_map, List.map_map] at k3
        have e3 : rgV 0 j = (List.range j.toNat).map ((fun p : D × V => p.2) ∘ fun i : Nat => (D.int (0 + (i : Int)), V.int (0 + (i : Int)))) := by
          unfold rgV
          rw [Int.sub_zero]
          rfl
        rw [e3]
        exact k3
      · cases e2
    | _ => cases e2
  · exact ⟨H0, T, s, σ0, _, k, e1, pp⟩
/-! methods that change a list -/
structure MF (X : Cx) (name : Str) (id : String) (m : MU) (r : V → List V → Hp → VK → Prop) : Prop where
  slot : Slot "list" name id
  ty : typeOf (.builtin id) = pure (.type "method_descriptor")
  mt : MtR X id r
  ms : MS m r
theorem m_append : MF X "append" "list.append" .append rAppend := ⟨PySem.F.slot_list_append, PySem.F.type_list_append, mt_append, ms_append⟩
theorem m_pop : MF X "pop" "list.pop" .pop rPop := ⟨PySem.F.slot_list_pop, PySem.F.type_list_pop, mt_pop, ms_pop⟩
theorem m_popAt : MF X "pop" "list.pop" .popAt rPopAt := ⟨PySem.F.slot_list_pop, PySem.F.type_list_pop, mt_popAt, ms_popAt⟩
theorem m_clear : MF X "clear" "list.clear" .clear rClear := ⟨PySem.F.slot_list_clear, PySem.F.type_list_clear, mt_clear, ms_clear⟩
theorem m_reverse : MF X "reverse" "list.reverse" .reverse rReverse := ⟨PySem.F.slot_list_reverse, PySem.F.type_list_reverse, mt_reverse, ms_reverse⟩
theorem m_insert : MF X "insert" "list.insert" .insert rInsert := ⟨PySem.F.slot_list_insert, PySem.F.type_list_insert, mt_insert, ms_insert⟩
theorem e_mut {name : Str} {id : String} {m : MU} {r : V → List V → Hp → VK → Prop} (h : MF X name id m r) (ho : PE X o (tVar i)) (ha : JA X W Φ (e :: es) is)
    (hbase : attributeBase o name X.env (eval o X.env) = eval o X.env)
    (hfew : ((backTo cpos (starEach (e :: es) X.env)).all (fun x => !x.1) && (backToKw cpos (keywordEach [] X.env)).all (fun x => x.1.isSome)
      && decide ((e :: es).length + ([] : List Keyword).length + (if ([] : List Keyword).isEmpty then 0 else 1) < 30)) = true)
    (hline : (apos.endLine == cpos.line) = true) (hs : starEach (e :: es) X.env = (false, eval e X.env) :: starEach es X.env) (hplain : (backTo cpos (starEach es X.env)).any (·.1) = false) :
    JE X W Φ (.Call (.Attribute o name apos) (e :: es) [] cpos) (.mut m i [] is) :=
  peImp (pe_bm PySem.F.plainAttrs_list h.slot h.ty h.mt ho ha hbase hfew hline hs hplain) fun σ H Q q => tMut0 h.ms q
theorem e_mut0 {name : Str} {id : String} {m : MU} {r : V → List V → Hp → VK → Prop} (h : MF X name id m r) (ho : PE X o (tVar i))
    (hbase : attributeBase o name X.env (eval o X.env) = eval o X.env) (hline : (apos.endLine == cpos.line) = true) :
    JE X W Φ (.Call (.Attribute o name apos) [] [] cpos) (.mut m i [] .nil) :=
  peImp (pe_bm0 PySem.F.plainAttrs_list h.slot h.ty h.mt ho hbase hline) fun σ H Q q => by
    have z : tBM X.K "list" r (tVar i) (tEs X.K X.mg W (evs Φ .nil)) σ H Q := tMut0 h.ms q
    obtain ⟨v, hv, ty, H0, T, s, σ0, o, k, er, pp⟩ := z
    cases er
    exact ⟨v, hv, ty, pp H [] rfl k⟩
/-! what is walked -/
theorem i_ex (h : JE X W Φ e ie) : JI X W Φ tg e (.ex ie) := pI_ex h
theorem i_enum {elts : List Expr} {kk : Nat} {tpos : Pos} (hg : Gl X "enumerate") (hm : X.mg "enumerate" = none) (h : JE X W Φ e ie) (hs : starEach [e] X.env = [(false, eval e X.env)]) : JI X W Φ (.Tuple elts kk tpos) (.Call (.Name "enumerate" p) [e] [] pos) (.enum ie) := pI_enum hg hm h hs
theorem i_zip {elts : List Expr} {kk : Nat} {tpos : Pos} (hg : Gl X "zip") (hm : X.mg "zip" = none) (h1 : JE X W Φ a ia) (h2 : JE X W Φ b ib) (hs : starEach [a, b] X.env = (false, eval a X.env) :: starEach [b] X.env) (hs2 : starEach [b] X.env = [(false, eval b X.env)]) :
    JI X W Φ (.Tuple elts kk tpos) (.Call (.Name "zip" p) [a, b] [] pos) (.zip ia ib) := pI_zip hg hm h1 h2 hs hs2
theorem i_r1 (hg : Gl X "range") (hm : X.mg "range" = none) (h : JE X W Φ e ie) (hs : starEach [e] X.env = [(false, eval e X.env)]) : JI X W Φ tg (.Call (.Name "range" p) [e] [] pos) (.r1 ie) := pI_r1 hg hm h hs
theorem i_r2 (hg : Gl X "range") (hm : X.mg "range" = none) (h1 : JE X W Φ a ia) (h2 : JE X W Φ b ib) (hs : starEach [a, b] X.env = [(false, eval a X.env), (false, eval b X.env)]) (hs2 : starEach [b] X.env = [(false, eval b X.env)]) :
    JI X W Φ tg (.Call (.Name "range" p) [a, b] [] pos) (.r2 ia ib) := pI_r2 hg hm h1 h2 hs hs2
/-! comprehensions -/
section
variable {scope : Scope} {own : List (Str × Nat)} {elt iter : Expr} {ifs : List Expr} {cond : Eo}
theorem b_no : PTs X [] (tB X.K (evc Φ .no)) := pB_nil
theorem b_so (h : JT X W0 Φ c ic) : PTs X [c] (tB X.K (evc Φ (.so ic))) := pB_one h
theorem e_comp (C : Cox X W) (hi : JI X W Φ tg iter it) (ok : BlkOk X.N X.env.scope scope own) (hnd : (own.map (·.2)).Nodup) (hp : ∀ i ∈ patS pt, i ∈ own.map (·.2))
    (hg : ∀ (s : Shared) (H : Hp) (D : Addr) (cl : List (Str × Addr)) (fp : List Addr), Cox (X.blk s H scope (compEnvC scope cl D X.env) fp) W0 → PG (X.blk s H scope (compEnvC scope cl D X.env) fp) tg (tG X.K pt))
    (ht : ∀ (s : Shared) (H : Hp) (D : Addr) (cl : List (Str × Addr)) (fp : List Addr), Cox (X.blk s H scope (compEnvC scope cl D X.env) fp) W0 → PTs (X.blk s H scope (compEnvC scope cl D X.env) fp) ifs (tB X.K (evc Φ cond)))
    (he : ∀ (s : Shared) (H : Hp) (D : Addr) (cl : List (Str × Addr)) (fp : List Addr), Cox (X.blk s H scope (compEnvC scope cl D X.env) fp) W0 → JE (X.blk s H scope (compEnvC scope cl D X.env) fp) W0 Φ elt ie)
    (hs : ∀ x, foldedSetIterable iter X.env x = pure x) : JE X W Φ (.ListComp elt [⟨tg, iter, ifs, 0⟩] scope pos) (.comp (own.map (·.2)) ie pt it cond) := by
  have cb : ∀ (s : Shared) (H : Hp) (D : Addr) (cl : List (Str × Addr)) (fp : List Addr), Cox (X.blk s H scope (compEnvC scope cl D X.env) fp) W0 := fun s H D cl fp => ⟨C.calm, takes0, C.nd, PassesOwn.never, C.un⟩
  exact peImp (pe_lc (te := tE X.K X.mg W0 (ev Φ ie)) (tt := tB X.K (evc Φ cond)) C.calm C.nd hi ok (fun s H D cl fp => hg s H D cl fp (cb s H D cl fp)) (fun s H D cl fp => ht s H D cl fp (cb s H D cl fp)) (fun s H D cl fp => he s H D cl fp (cb s H D cl fp)) hs) fun σ H Q q => tComp (mg := X.mg) (W := W) hnd hp q
theorem tG_gName {K : PySem.W.Frag} {i : Nat} {v : V} {σ : L2.St} {H : Hp} {Q : L2.St → Hp → Prop} (q : tG K (.nm i) v σ H Q) : gName i v σ H Q := by
  obtain ⟨H0, T, s, σ0, d, s', k, eb, q⟩ := q
  simp only [bind] at eb
  split at eb
  · rename_i hi
    cases eb
    refine q _ _ ⟨by simp, fun j hj => ?_⟩ (k.store hi)
    rw [List.getElem?_set_ne]
    intro e
    exact hj (by simp [patS, e])
  · cases eb
theorem s_asgC {y : Str} {py spos : Pos} (C : Cox X W) (hy : X.N[i]? = some y) (hyl : X.env.scope.names.lookup y = some .local)
    (hsw : swapsWith (.ListComp elt [⟨tg, iter, ifs, 0⟩] scope pos) (some (.Name y py)) spos.line X.env = pure true) (hi : JI X W Φ tg iter it) (ok : BlkOk X.N X.env.scope scope own) (hnd : (own.map (·.2)).Nodup) (hp : ∀ i ∈ patS pt, i ∈ own.map (·.2))
    (hg : ∀ (s : Shared) (H : Hp) (D : Addr) (cl : List (Str × Addr)) (fp : List Addr), Cox (X.blk s H scope (compEnvC scope cl D X.env) fp) W0 → PG (X.blk s H scope (compEnvC scope cl D X.env) fp) tg (tG X.K pt))
    (ht : ∀ (s : Shared) (H : Hp) (D : Addr) (cl : List (Str × Addr)) (fp : List Addr), Cox (X.blk s H scope (compEnvC scope cl D X.env) fp) W0 → PTs (X.blk s H scope (compEnvC scope cl D X.env) fp) ifs (tB X.K (evc Φ cond)))
    (he : ∀ (s : Shared) (H : Hp) (D : Addr) (cl : List (Str × Addr)) (fp : List Addr), Cox (X.blk s H scope (compEnvC scope cl D X.env) fp) W0 → JE (X.blk s H scope (compEnvC scope cl D X.env) fp) W0 Φ elt ie)
    (hs : ∀ x, foldedSetIterable iter X.env x = pure x) : JS X W Φ w (.Assign [.Name y py] (.ListComp elt [⟨tg, iter, ifs, 0⟩] scope pos) spos) (.asg (.nm i) (.comp (own.map (·.2)) ie pt it cond)) := by
  have cb : ∀ (s : Shared) (H : Hp) (D : Addr) (cl : List (Str × Addr)) (fp : List Addr), Cox (X.blk s H scope (compEnvC scope cl D X.env) fp) W0 := fun s H D cl fp => ⟨C.calm, takes0, C.nd, PassesOwn.never, C.un⟩
  refine psImp (ps_setLc (te := tE X.K X.mg W0 (ev Φ ie)) (tt := tB X.K (evc Φ cond)) C.calm C.nd hy hyl hsw hi ok (fun s H D cl fp => hg s H D cl fp (cb s H D cl fp)) (fun s H D cl fp => ht s H D cl fp (cb s H D cl fp)) (fun s H D cl fp => he s H D cl fp (cb s H D cl fp)) hs) fun DD σ H q => ?_
  have q : tS X.K X.mg W (asgE (compE (evt Φ it) pt (evc Φ cond) (ev Φ ie) (own.map (·.2))) (.nm i)) DD σ H := q
  obtain ⟨H0, T, s, σ0, f, s', k, er, p⟩ := q
  refine tComp (mg := X.mg) (W := W) hnd hp ?_
  rcases bnds_cases er with ⟨d, s1, e1, e2⟩ | ⟨c, s1, e1, e2⟩
  · refine ⟨H0, T, s, σ0, _, k, e1, fun H1 v k1 => ?_⟩
    cases eb : bind (.nm i) d s1 with
    | none => rw [eb] at e2; cases e2
    | some s2 =>
      rw [eb] at e2
      cases e2
      exact tG_gName ⟨H0, T, s1, σ0, d, _, k1, eb, fun σ' H' _ k2 => p σ' H' k2⟩
  · cases e2
    exact ⟨H0, T, s, σ0, _, k, e1, fun H1 C hc k1 => p σ H1 C hc k1⟩
end
/-! statements -/
theorem ss_nil : JSs X W Φ w [] .nil := pS_nil
theorem ss_cons (h1 : JS X W Φ w st i1) (h2 : JSs X W Φ w sts j1) : JSs X W Φ w (st :: sts) (.cons i1 j1) := pS_cons h1 h2
theorem s_expr (h : JE X W Φ e ie) (hs : swapsWith e none pos.line X.env = pure false) : JS X W Φ w (.Expr e pos) (.expr ie) := pS_expr h hs
theorem s_pass : JS X W Φ w (.Pass pos) .pass := pS_pass
theorem s_brk : JS X W Φ w (.Break pos) .brk := pS_brk
theorem s_cnt : JS X W Φ w (.Continue pos) .cnt := pS_cnt
theorem s_retN : JS X W Φ w (.Return none pos) .retN := pS_retN
theorem s_retv (i : Nat) (h : PE X e (tVar i)) : JS X W Φ w (.Return (some e) pos) (.retv i) := pS_retv h
theorem s_ret (h : JE X W Φ e ie) : JS X W Φ w (.Return (some e) pos) (.ret ie) := pS_ret h
theorem s_if (hc : JT X W Φ c ic) (h1 : JSs X W Φ w sts j1) (h2 : JSs X W Φ w sts2 j2) : JS X W Φ w (.If c sts sts2 pos) (.ife ic j1 j2) := pS_if hc h1 h2
theorem s_whl (C : Cox X W) (hc : JT X W Φ c ic) (h1 : JSs X W Φ w sts j1) : JS X W Φ w (.While c sts [] pos) (.whl ic j1) := pS_whl C.own hc h1
theorem s_fo (C : Cox X W) (hi : JI X W Φ tg e it) (hg : PG X tg (tG X.K pt)) (h1 : JSs X W Φ w sts j1) (hs : ∀ x, foldedSetIterable e X.env x = pure x) : JS X W Φ w (.For tg e sts [] pos) (.fo pt it j1) := pS_fo C.own C.calm hi hg h1 hs
theorem s_asg (h : JE X W Φ e ie) (hg : PG X tg (tG X.K pt)) (hs : swapsWithSole [tg] e pos.line X.env = pure false) (hw : swappedStores [tg] e X.env = pure none) (h1 : (assignEach [tg] X.env).map (·.2) = [assign tg X.env]) : JS X W Φ w (.Assign [tg] e pos) (.asg pt ie) := pS_asg h hg hs hw h1
theorem s_par {j : Nat} {x y : Str} {px py pt : Pos} {kt k2 pt2} (C : Cox X W) (hi : X.N[i]? = some x) (hj : X.N[j]? = some y) (hij : i ≠ j)
    (hx : X.env.scope.names.lookup x = some .local) (hy : X.env.scope.names.lookup y = some .local) (ha : JE X W Φ a ia) (hb : JE X W Φ b ib) (h1 : starEach [a, b] X.env = (false, eval a X.env) :: starEach [b] X.env) (h2 : starEach [b] X.env = [(false, eval b X.env)])
    (hw : swappedStores [.Tuple [.Name x px, .Name y py] kt pt] (.Tuple [a, b] k2 pt2) X.env = pure (some [x, y])) :
    JS X W Φ w (.Assign [.Tuple [.Name x px, .Name y py] kt pt] (.Tuple [a, b] k2 pt2) pos) (.par i j ia ib) := pS_par C.calm C.nd hi hj hij hx hy ha hb h1 h2 hw
theorem s_add (C : Cox X W) (hi : X.N[i]? = some x) (hx : Loc X.env.scope x) (hf : X.fn x = true ∨ X.env.scope.names.lookup x = some .local) (h : JE X W Φ e ie) : JS X W Φ w (.AugAssign (.Name x pos') .Add e pos) (.aug i .add ie) := pS_aug ip_add C.nd hi hx hf h
theorem s_sub (C : Cox X W) (hi : X.N[i]? = some x) (hx : Loc X.env.scope x) (hf : X.fn x = true ∨ X.env.scope.names.lookup x = some .local) (h : JE X W Φ e ie) : JS X W Φ w (.AugAssign (.Name x pos') .Sub e pos) (.aug i .sub ie) := pS_aug ip_sub C.nd hi hx hf h
theorem s_seti {tpos : Pos} (ho : PE X o (tVar i)) (hk : JE X W Φ c ic) (h : JE X W Φ e ie) (hs : swapsWithSole [.Subscript o c tpos] e pos.line X.env = pure false) (hw : swappedStores [.Subscript o c tpos] e X.env = pure none)
    (h1 : (assignEach [.Subscript o c tpos] X.env).map (·.2) = [assign (.Subscript o c tpos) X.env]) (ha : ∀ v, assign (.Subscript o c tpos) X.env v = (do
      let ov ← holding [v] (eval o X.env)
      let iv ← holding [v, ov] (eval c X.env)
      standAt tpos
      holding [v, ov, iv] (setItem ov iv v)
      release [v, ov, iv] [])) : JS X W Φ w (.Assign [.Subscript o c tpos] e pos) (.seti i ic ie) := pS_seti ho hk h hs hw h1 ha
theorem g_nm (C : Cox X W) (hi : X.N[i]? = some x) (hx : Loc X.env.scope x) (hf : X.fn x = true ∨ X.env.scope.names.lookup x = some .local) : PG X (.Name x pos) (tG X.K (.nm i)) := pG_nm (pg_name C.nd hi hx hf)
end
end VE

namespace VE
open PySem L2 PyProof.Rows
def fin (ar : Nat) : Option (Fl × SS) → Option RC
  | some (.nxt, s) => some (.ret .non (outs ar s))
  | some (.ret d, s) => some (.ret d (outs ar s))
  | some (.exc c, s) => some (.exc c (outs ar s))
  | _ => none
noncomputable def run1 (Φ : Phi) (w : Nat) (fn : Fn) (ds : List D) : Option RC := if ds.length = fn.ar then fin fn.ar (exs Φ w fn.body (start fn ds)) else none
theorem run_succ {P : List Fn} {w n f : Nat} {fn : Fn} (h : P[f]? = some fn) : run P w (n + 1) f = run1 (run P w n) w fn := by
  funext ds
  show (match P[f]? with
    | none => none
    | some fn => if ds.length = fn.ar then
        (match exs (run P w n) w fn.body (start fn ds) with
        | some (.nxt, s) => some (RC.ret .non (outs fn.ar s))
        | some (.ret d, s) => some (.ret d (outs fn.ar s))
        | some (.exc c, s) => some (.exc c (outs fn.ar s))
        | _ => none) else none) = _
  rw [h]
  unfold run1
  show (if ds.length = fn.ar then _ else none) = _
  split
  · cases exs (run P w n) w fn.body (start fn ds) with
    | none => rfl
    | some q => obtain ⟨f, s⟩ := q; cases f <;> rfl
  · rfl
section
variable {K : PySem.W.Frag} {H H0 : Hp}
theorem outs_sep : ∀ (vs : List V) (s : SS) (σ : L2.St) (T : List Ent), (∀ (i : Nat) (a : Sl) (v : V), s[i]? = some a → a.org = true → vs[i]? = some v → σ[i]? = some (some v)) → s.length = σ.length →
    Sep K H H0 (ents s σ ++ T) → Sep K H H0 ((outs vs.length s).zip (vs.map some) ++ T)
  | [], s, σ, T, _, _, h => h.dropA
  | v :: vs, [], σ, T, _, _, h => by
    have e : σ = σ := rfl
    simpa [outs, ents] using h
  | v :: vs, a :: s, [], T, _, hl, h => by simp at hl
  | v :: vs, a :: s, u :: σ, T, ho, hl, h => by
    have h : Sep K H H0 ((a.d, u) :: (ents s σ ++ T)) := h
    have rest : ∀ T', Sep K H H0 (ents s σ ++ T') → Sep K H H0 ((outs vs.length s).zip (vs.map some) ++ T') := fun T' => outs_sep vs s σ T' (fun i b w e1 e2 e3 => by
      have := ho (i + 1) b w (by simpa using e1) e2 (by simpa using e3)
      simpa using this) (by simpa using hl)
    show Sep K H H0 (((if a.org then a.d else none), some v) :: ((outs vs.length s).zip (vs.map some) ++ T))
    cases e : a.org with
    | true =>
      have := ho 0 a v rfl e rfl
      have eu : u = some v := by simpa using this
      subst eu
      have h2 : Sep K H H0 (ents s σ ++ ((a.d, some v) :: T)) := h.perm List.perm_middle.symm
      exact (rest _ h2).perm List.perm_middle
    | false => exact (rest _ h.drop).non
theorem nons_sep {x : List Ent} (n : Nat) (h : Sep K H H0 x) : Sep K H H0 (x ++ List.replicate n (none, none)) := by
  induction n with
  | zero => simpa using h
  | succ n ih =>
    refine (Sep.non (v := none) ih).perm ?_
    rw [List.replicate_succ]
    exact List.perm_middle.symm
theorem ents_start {fn : Fn} {ds : List D} {vs : List V} {N : List Str} (hl : ds.length = vs.length) (ha : ds.length = fn.ar) (hN : N.length = fn.sz) : ents (start fn ds) (L2.start N vs) = es (ds.zip vs) ++ List.replicate (fn.sz - fn.ar) (none, none) := by
  unfold ents start L2.start
  rw [List.map_append, List.map_map, List.map_replicate, hN, ← hl, ha, List.zip_append (by simp [hl])]
  congr 1
  · unfold es
    rw [List.zip_map]
    apply List.map_congr_left
    intro p _
    rfl
  · rw [List.zip_replicate]
    simp
theorem start_len {fn : Fn} {ds : List D} {vs : List V} {N : List Str} (hl : ds.length = vs.length) (ha : ds.length = fn.ar) (hN : N.length = fn.sz) : (start fn ds).length = (L2.start N vs).length := by
  simp [start, L2.start, hl, hN, ← ha]
theorem start_get {N : List Str} {vs : List V} {i : Nat} {v : V} (h : vs[i]? = some v) : (L2.start N vs)[i]? = some (some v) := by
  unfold L2.start
  rw [List.getElem?_append_left (by simp; exact (List.getElem?_eq_some_iff.mp h).1), List.getElem?_map, h]
  rfl
end
section
variable {P : Program} {w : World} {K : PySem.W.Frag} {mg : Str → Option Value} {base : Heap}
/-- what is let out of a body -/
abbrev WO (E : XK) : WX := fun cls d _ H => E cls d H
theorem fn_ok {x qual : Str} {st : Stmt} {f : Addr} {fd : FuncData} {N ps : List Str} {k m : Nat} {Φ : Phi} {fn : Fn} (F : Fun K x qual st f fd) (S : FnScope N ps (defScope st)) (ha : ps.length = fn.ar) (hN : N.length = fn.sz)
    (hb : ∀ (cdv : Value) (A : Around) (outer : List Env) (s : Shared) (H : Hp) (E : XK), Room k (cxOf (L2.CX P w) P w K mg base N qual (defScope st) f cdv A outer s H E).A → Cox (cxOf (L2.CX P w) P w K mg base N qual (defScope st) f cdv A outer s H E) (WO E) →
      JSs (cxOf (L2.CX P w) P w K mg base N qual (defScope st) f cdv A outer s H E) (WO E) Φ m (defBody st) fn.body) :
    FnOk P w K mg base (L2.CX P w) (k + 1) f fd ps (spR K mg fn.ar (run1 Φ m fn)) := by
  refine F.okX S (fun vs H Q E h => h.1.trans ha.symm) fun cdv A outer s H vs Q E hr h => ?_
  have C : Cox (cxOf (L2.CX P w) P w K mg base N qual (defScope st) f cdv A outer s H E) (WO E) := ⟨rfl, takes_of rfl rfl rfl rfl, S.nd, passes_of rfl, by have := hr.un; show (A.deeper _).units + 65 < _; omega⟩
  refine ⟨_, hb cdv A outer s H E hr C, ?_⟩
  obtain ⟨hl, H0, T, ds, rc, hd, sep, eg, pc⟩ := h
  unfold run1 at eg
  split at eg
  · rename_i hda
    have k0 : Ok K H0 H T (start fn ds) (L2.start N vs) (L2.start N vs) := ⟨start_len hd hda hN, by
      rw [ents_start hd hda hN, ← List.append_assoc]
      exact nons_sep _ (sep.perm List.perm_append_comm), fun _ _ _ _ => rfl⟩
    have fin0 : ∀ {s' : SS} {σ' : L2.St} {H' : Hp} {T' : List Ent}, Ok K H0 H' T' s' (L2.start N vs) σ' → Sep K H' H0 ((outs fn.ar s').zip (vs.map some) ++ T') := fun {s' σ' H' T'} k' => by
      rw [← hl]
      refine outs_sep vs s' σ' T' (fun i a v e1 e2 e3 => ?_) k'.len (k'.sep.perm List.perm_append_comm)
      rw [k'.org i a e1 e2]
      exact start_get e3
    show tS K mg (WO E) (exs Φ m fn.body) { nx := fun _ H' => Q .non H', rt := Q } (L2.start N vs) H
    cases ex : exs Φ m fn.body (start fn ds) with
    | none => rw [ex] at eg; cases eg
    | some q =>
      obtain ⟨fl, s'⟩ := q
      rw [ex] at eg
      refine ⟨H0, T, start fn ds, L2.start N vs, fl, s', k0, ex, ?_⟩
      cases fl with
      | nxt =>
        cases eg
        exact fun σ' H' k' => pc H' .non (fin0 k'.nonD |>.perm (List.perm_middle))
      | ret d =>
        cases eg
        exact fun σ' H' v k' => pc H' v (fin0 k' |>.perm (List.perm_middle))
      | exc c =>
        cases eg
        exact fun σ' H' C hc k' => pc H' C hc (fin0 k')
      | brk => cases eg
      | cnt => cases eg
  · cases eg
/-- a def by its name, its number: called -/
def Cl (P : Program) (w : World) (K : PySem.W.Frag) (mg : Str → Option Value) (base : Heap) (n : Nat) (x : Str) (ar : Nat) (g : List D → Option RC) : Prop := ∃ (f : Addr) (fd : FuncData) (ps : List Str),
  FnOk P w K mg base (L2.CX P w) n f fd ps (spR K mg ar g) ∧ mg x = some (.ref f) ∧ PySem.W.keepIn K (.ref f) = true ∧ Binds K fd ps []
theorem Cl.cal {X : Cx} {n : Nat} {x : Str} {ar : Nat} {g : List D → Option RC} (h : Cl X.prog X.w X.K X.mg X.base n x ar g) (hr : Room n X.A) : Cal X x ar g := by
  obtain ⟨f, fd, ps, F, h1, h2, h3⟩ := h
  exact ⟨n, f, fd, ps, F, hr, h1, h2, h3⟩
theorem spR_no {ar : Nat} {vs : List V} {H : Hp} {Q : VK} {E : XK} : ¬ spR K mg ar (fun _ => none) vs H Q E := fun h => by
  obtain ⟨_, _, _, _, _, _, _, eg, _⟩ := h
  cases eg
/-- a def that computes nothing yet -/
theorem fn_no {f : Addr} {fd : FuncData} {ps : List Str} {k ar : Nat} : FnOk P w K mg base (L2.CX P w) k f fd ps (spR K mg ar fun _ => none) := ⟨fun vs H Q E h => absurd h spR_no, fun A outer s H args us vs Q E _ _ _ _ h => absurd h spR_no⟩
/-- the law's own end -/
def spLaw (K : PySem.W.Frag) (n : Nat) : Sp := fun vs H Q _ => ∃ (a : Addr) (ns : List Int), vs = [.ref a] ∧ SqL K H a (ns.map V.int) ∧ ns.length ≤ n ∧ ∀ H', Q (.bl true) H'
def noL (K : PySem.W.Frag) : Bool := K.all fun p => match p.2.cls with | .type n => !(n == "list") | _ => true
theorem mem_of_lookup {a : Addr} {o : Obj} : ∀ {K : PySem.W.Frag}, K.lookup a = some o → (a, o) ∈ K
  | [], h => by cases h
  | (b, p) :: K, h => by
    simp only [List.lookup] at h
    split at h
    · rename_i e
      cases h
      simp [eq_of_beq e]
    · exact List.mem_cons_of_mem _ (mem_of_lookup h)
theorem Reps.of_ints {Hs H : Hp} : ∀ ns : List Int, Reps K Hs H (ns.map D.int) (ns.map V.int) []
  | [] => ⟨rfl, rfl⟩
  | n :: ns => ⟨_, _, [], [], rfl, rfl, ⟨rfl, rfl⟩, Reps.of_ints ns⟩
theorem law_imp {f : Addr} {fd : FuncData} {ps : List Str} {k n : Nat} {g : List D → Option RC} (F : FnOk P w K mg base (L2.CX P w) k f fd ps (spR K mg 1 g)) (hn : noL K = true)
    (hg : ∀ ns : List Int, ns.length ≤ n → ∃ o, g [.lst false (ns.map D.int)] = some (.ret (.bl true) o)) : FnOk P w K mg base (L2.CX P w) k f fd ps (spLaw K n) := F.imp fun vs H Q E h => by
  obtain ⟨a, ns, rfl, hS, hl, q⟩ := h
  obtain ⟨o, eg⟩ := hg ns hl
  have rd : Rd H a (.lst (ns.map V.int)) := by
    rcases hS with hS | ⟨ob, its, m, hk, hc, _⟩
    · exact hS
    · have := List.all_eq_true.mp hn _ (mem_of_lookup hk)
      rw [hc] at this
      exact absurd this (by decide)
  refine ⟨rfl, H, [], [.lst false (ns.map D.int)], _, rfl, ?_, eg, fun H' v z => ?_⟩
  · exact ⟨H, [], Same.refl H, Same.refl H, ⟨[], [], rfl, ⟨_, rfl, a, _, rfl, rfl, rd, Reps.of_ints ns⟩, rfl⟩, List.nodup_nil, fun b hb => by cases hb⟩
  · obtain ⟨Hs, fp, _, _, ⟨f1, f2, rfl, ⟨v', e, r⟩, _⟩, _, _⟩ := z
    cases e
    obtain ⟨rfl, _⟩ := r
    exact q H'
end
end VE

namespace VE
open PySem L2
/-- small enough to multiply -/
def Sm (k : Nat) (i : Int) : Prop := i.natAbs < 2 ^ k
theorem Sm.mono {a b : Nat} {i : Int} (h : Sm a i) (hab : a ≤ b) : Sm b i := Nat.lt_of_lt_of_le h (Nat.pow_le_pow_right (by decide) hab)
theorem Sm.mul {a b : Nat} {i j : Int} (h : Sm a i) (g : Sm b j) : Sm (a + b) (i * j) := by
  unfold Sm at *
  rw [Int.natAbs_mul, Nat.pow_add]
  exact Nat.mul_lt_mul'' h g
theorem Sm.add {a : Nat} {i j : Int} (h : Sm a i) (g : Sm a j) : Sm (a + 1) (i + j) := by
  unfold Sm at *
  have := Int.natAbs_add_le i j
  rw [Nat.pow_succ]
  omega
theorem Sm.sub {a : Nat} {i j : Int} (h : Sm a i) (g : Sm a j) : Sm (a + 1) (i - j) := by
  unfold Sm at *
  rw [Nat.pow_succ]
  omega
theorem Sm.of {k : Nat} {i : Int} {n : Nat} (h : i.natAbs ≤ n) (hn : n < 2 ^ k) : Sm k i := Nat.lt_of_le_of_lt h hn
theorem Sm.log {k : Nat} {i : Int} (h : Sm k i) (hk : 0 < k) : i.natAbs.log2 < k := by
  by_cases e : i.natAbs = 0
  · rw [e]; exact hk
  · exact (Nat.log2_lt e).mpr h
theorem bin_mul {a b : Nat} {i j : Int} (h : Sm a i) (g : Sm b j) (ha : a ≤ 100000) (hb : b ≤ 100000) : binop .mul (.int i) (.int j) = some (.int (i * j)) := by
  have h1 := (h.mono (Nat.le_succ a)).log (Nat.succ_pos _)
  have h2 := (g.mono (Nat.le_succ b)).log (Nat.succ_pos _)
  show (if i.natAbs.log2 + j.natAbs.log2 < 1000000 then some (D.int (i * j)) else none) = _
  rw [if_pos (by omega)]
theorem bin_div {b : Nat} {i j : Int} (hj : 0 < j) (g : Sm b j) (hb : b ≤ 8000) : binop .div (.int i) (.int j) = some (.int (i / j)) := by
  have h2 := (g.mono (Nat.le_succ b)).log (Nat.succ_pos _)
  show (if 0 < j ∧ j.natAbs.log2 < 9000 then some (D.int (i / j)) else none) = _
  rw [if_pos ⟨hj, by omega⟩]
theorem bin_mod {i j : Int} (hj : 0 < j) : binop .mod (.int i) (.int j) = some (.int (i % j)) := if_pos hj
@[simp] theorem bin_add {i j : Int} : binop .add (.int i) (.int j) = some (.int (i + j)) := id rfl
@[simp] theorem bin_sub {i j : Int} : binop .sub (.int i) (.int j) = some (.int (i - j)) := id rfl
theorem bin_pow {i j : Int} (h : 0 ≤ j ∧ j ≤ 1000000 ∧ i.natAbs < 2 ^ 64) : binop .pow (.int i) (.int j) = some (.int (i ^ j.toNat)) := if_pos h
@[simp] theorem cmp_lt {i j : Int} : cmpop .lt (.int i) (.int j) = some (.bl (decide (i < j))) := id rfl
@[simp] theorem cmp_le {i j : Int} : cmpop .le (.int i) (.int j) = some (.bl (decide (i ≤ j))) := id rfl
@[simp] theorem cmp_gt {i j : Int} : cmpop .gt (.int i) (.int j) = some (.bl (decide (j < i))) := id rfl
@[simp] theorem cmp_ge {i j : Int} : cmpop .ge (.int i) (.int j) = some (.bl (decide (j ≤ i))) := id rfl
@[simp] theorem eqD_int {i j : Int} : eqD (.int i) (.int j) = decide (i = j) := by
  simp [eqD, toPy, PyData.eqv]
  by_cases h : i = j <;> simp [h]
@[simp] theorem okd_int {n : Nat} {i : Int} : okd n (.int i) = true := by cases n <;> rfl
@[simp] theorem cmp_eqI {i j : Int} : cmpop .eq (.int i) (.int j) = some (.bl (decide (i = j))) := by simp [cmpop]
@[simp] theorem cmp_neI {i j : Int} : cmpop .ne (.int i) (.int j) = some (.bl (!decide (i = j))) := by simp [cmpop]
/-- a run of one def -/
theorem run_eq {P : List Fn} {w n f : Nat} {fn : Fn} {ds : List D} {o : Option (Fl × SS)} (h : P[f]? = some fn) (ha : ds.length = fn.ar) (e : exs (run P w n) w fn.body (start fn ds) = o) : run P w (n + 1) f ds = fin fn.ar o := by
  rw [run_succ h]
  unfold run1
  rw [if_pos ha, e]
end VE
namespace VE
open PySem L2
/-! #### one step each, for simp -/
section
variable {Φ : Phi} {w : Nat} {s t : SS} {a b c e : E} {es : Es} {r : Ss} {x y : D} {xs ys : List D} {o : Bool} {d : Option D} {i j n : Nat}
@[simp] theorem sl_0 {a : Sl} : gt (a :: s) 0 = a.d := id rfl
@[simp] theorem sl_s {a : Sl} : gt (a :: s) (n + 1) = gt s n := id rfl
@[simp] theorem pt_0 {a : Sl} : pt (a :: s) 0 d = ⟨a.org, d⟩ :: s := id rfl
@[simp] theorem pt_s {a : Sl} : pt (a :: s) (n + 1) d = a :: pt s n d := id rfl
@[simp] theorem st_0 {a : Sl} : st (a :: s) 0 x = ⟨false, some x⟩ :: s := id rfl
@[simp] theorem st_s {a : Sl} : st (a :: s) (n + 1) x = a :: st s n x := id rfl
@[simp] theorem ev_lit : ev Φ (.lit x) s = some (.ok x s) := id rfl
@[simp] theorem ev_glob {z : Str} : ev Φ (.glob z x) s = some (.ok x s) := id rfl
@[simp] theorem ev_var : ev Φ (.var i) s = (match gt s i with | some d => if fz d then some (.ok d s) else some (.ok (frz d) (pt s i (some (frz d)))) | none => none) := id rfl
@[simp] theorem ev_neg : ev Φ (.neg a) s = bnd (ev Φ a s) fun d s => match d with | .int i => some (.ok (.int (-i)) s) | _ => none := id rfl
@[simp] theorem ev_inv : ev Φ (.inv a) s = bnd (ev Φ a s) fun d s => match d with | .bl b => some (.ok (.bl (!b)) s) | _ => none := id rfl
@[simp] theorem ev_bin {q : BO} : ev Φ (.bin q a b) s = bnd (evo a (ev Φ a) s) fun x s => bnd (evo b (ev Φ b) s) fun y s => (match view s x, view s y with | some d, some e => up (binop q d e) s | _, _ => none) := id rfl
@[simp] theorem ev_cmp {q : CO} : ev Φ (.cmp q a b) s = bnd (evo a (ev Φ a) s) fun x s => bnd (evo b (ev Φ b) s) fun y s => (match view s x, view s y with | some d, some e => up (cmpop q d e) s | _, _ => none) := id rfl
@[simp] theorem ev_and : ev Φ (.and a b) s = bnd (ev Φ a s) fun d s => (match d with | .bl true => ev Φ b s | .bl false => some (.ok (.bl false) s) | _ => none) := id rfl
@[simp] theorem ev_or : ev Φ (.or a b) s = bnd (ev Φ a s) fun d s => (match d with | .bl true => some (.ok (.bl true) s) | .bl false => ev Φ b s | _ => none) := id rfl
@[simp] theorem ev_ite : ev Φ (.ite c a b) s = bnd (ev Φ c s) fun d s => (match d with | .bl true => ev Φ a s | .bl false => ev Φ b s | _ => none) := id rfl
@[simp] theorem ev_tup : ev Φ (.tup es) s = bnd (evs Φ es s) fun ds s => if ds.length ≤ LIM then some (.ok (.tup ds) s) else none := id rfl
@[simp] theorem ev_lst : ev Φ (.lst es) s = bnd (evs Φ es s) fun ds s => if ds.length ≤ LIM then some (.ok (.lst true ds) s) else none := id rfl
@[simp] theorem ev_ix : ev Φ (.ix a b) s = bnd (evo a (ev Φ a) s) fun x s => bnd (ev Φ b s) fun k s => ixAll x k s := id rfl
@[simp] theorem ev_sl {l h : Eo} : ev Φ (.sl a l h) s = bnd (evo a (ev Φ a) s) fun x s => bnd (evi Φ l s) fun l s => bnd (evi Φ h s) fun h s => (match view s x with | some d => up (slop d l h) s | none => none) := id rfl
@[simp] theorem ev_call {f : Nat} : ev Φ (.call f es) s = bnd (evos Φ es s) fun os s => callEnd (Φ f) os s := id rfl
@[simp] theorem ev_prim {q : PR} : ev Φ (.prim q es) s = bnd (evos Φ es s) fun os s => (match views s os with | some ds => up (prim q ds) s | none => none) := id rfl
@[simp] theorem ev_isi {q : TY} : ev Φ (.isi a q) s = bnd (evo a (ev Φ a) s) fun x s => (match view s x with | some d => if isPtr d then none else some (.ok (.bl (tyop d q)) s) | none => none) := id rfl
@[simp] theorem ev_mut0 {m : MU} : ev Φ (.mut m i [] es) s = mut0 m i (evs Φ es) s := id rfl
@[simp] theorem ev_lrg : ev Φ (.lrg a) s = bnd (ev Φ a s) fun d s => (match d with | .int j => if okB (-(2 ^ 62) ≤ j ∧ j ≤ (LIM : Int)) then some (.ok (.lst true (rng 0 j.toNat)) s) else none | _ => none) := id rfl
@[simp] theorem evo_lrg {f : SS → Option (O D)} : evo (.lrg a) f s = bnd (f s) fun d s => some (.ok (.vl d) s) := id rfl
@[simp] theorem evs_nil : evs Φ .nil s = some (.ok [] s) := id rfl
@[simp] theorem evs_cons : evs Φ (.cons a es) s = bnd (ev Φ a s) fun d s => bnd (evs Φ es s) fun ds s => some (.ok (d :: ds) s) := id rfl
@[simp] theorem evos_nil : evos Φ .nil s = some (.ok [] s) := id rfl
@[simp] theorem evos_cons : evos Φ (.cons a es) s = bnd (evo a (ev Φ a) s) fun d s => bnd (evos Φ es s) fun ds s => some (.ok (d :: ds) s) := id rfl
@[simp] theorem evi_no : evi Φ .no s = some (.ok none s) := id rfl
@[simp] theorem evi_so : evi Φ (.so e) s = bnd (ev Φ e s) fun d s => (match d with | .int i => some (.ok (some i) s) | _ => none) := id rfl
@[simp] theorem evc_no : evc Φ .no s = some (.ok true s) := id rfl
@[simp] theorem evc_so : evc Φ (.so e) s = bnd (ev Φ e s) fun d s => (match d with | .bl b => some (.ok b s) | _ => none) := id rfl
@[simp] theorem evt_ex : evt Φ (.ex e) s = bnd (ev Φ e s) fun d s => (match items (frz d) with | some xs => some (.ok xs s) | none => none) := id rfl
@[simp] theorem evt_r1 : evt Φ (.r1 e) s = bnd (ev Φ e s) fun d s => (match d with | .int j => if rngOk j then some (.ok (rng 0 j.toNat) s) else none | _ => none) := id rfl
@[simp] theorem evt_r2 : evt Φ (.r2 a b) s = bnd (ev Φ a s) fun d s => bnd (ev Φ b s) fun e s => (match d, e with | .int i, .int j => if rngOk i && rngOk j then some (.ok (rng i (j - i).toNat) s) else none | _, _ => none) := id rfl
@[simp] theorem ex_expr : ex Φ w (.expr e) s = bnds (ev Φ e s) fun _ s => some (.nxt, s) := id rfl
@[simp] theorem ex_asg {p : Pat} : ex Φ w (.asg p e) s = bnds (ev Φ e s) fun d s => (match VE.bind p d s with | some s => some (.nxt, s) | none => none) := id rfl
@[simp] theorem ex_par : ex Φ w (.par i j a b) s = bnds (ev Φ a s) fun d s => bnds (ev Φ b s) fun e s => if i < s.length ∧ j < s.length then some (.nxt, st (st s i d) j e) else none := id rfl
@[simp] theorem ex_seti : ex Φ w (.seti i a e) s = bnds (ev Φ e s) fun d s => (match gt s i with
      | some _ => bnds (ev Φ a s) fun k s => (match gt s i with
        | some c => (match setop c k d with | some c => some (.nxt, pt s i (some c)) | none => none)
        | none => none)
      | none => none) := id rfl
@[simp] theorem ex_add : ex Φ w (.aug i .add e) s = augE i (fun x y => x + y) (ev Φ e) s := id rfl
@[simp] theorem ex_if {q : Ss} : ex Φ w (.ife c r q) s = bnds (ev Φ c s) fun d s => (match d with | .bl true => exs Φ w r s | .bl false => exs Φ w q s | _ => none) := id rfl
@[simp] theorem ex_whl : ex Φ w (.whl c r) s = whlL (ev Φ c) (exs Φ w r) w s := id rfl
@[simp] theorem ex_fo {p : Pat} {it : It} : ex Φ w (.fo p it r) s = bnds (evt Φ it s) fun xs s => forL (fun x s => match VE.bind p x s with | some s => exs Φ w r s | none => none) xs s := id rfl
@[simp] theorem ex_ret : ex Φ w (.ret e) s = bnds (ev Φ e s) fun d s => some (.ret d, s) := id rfl
@[simp] theorem ex_retv : ex Φ w (.retv i) s = (match gt s i with | some d => some (.ret d, pt s i none) | none => none) := id rfl
@[simp] theorem ex_retN : ex Φ w .retN s = some (.ret .non, s) := id rfl
@[simp] theorem ex_brk : ex Φ w .brk s = some (.brk, s) := id rfl
@[simp] theorem ex_cnt : ex Φ w .cnt s = some (.cnt, s) := id rfl
@[simp] theorem ex_pass : ex Φ w .pass s = some (.nxt, s) := id rfl
@[simp] theorem exs_nil : exs Φ w .nil s = some (.nxt, s) := id rfl
/-- a block goes on -/
def seqS (q : Option (Fl × SS)) (k : SS → Option (Fl × SS)) : Option (Fl × SS) := match q with | some (.nxt, s) => k s | x => x
@[simp] theorem exs_cons {z : S} : exs Φ w (.cons z r) s = seqS (ex Φ w z s) (exs Φ w r) := id rfl
@[simp] theorem seqS_nxt {k : SS → Option (Fl × SS)} : seqS (some (.nxt, s)) k = k s := id rfl
@[simp] theorem seqS_ret {k : SS → Option (Fl × SS)} : seqS (some (.ret x, s)) k = some (.ret x, s) := id rfl
@[simp] theorem seqS_brk {k : SS → Option (Fl × SS)} : seqS (some (.brk, s)) k = some (.brk, s) := id rfl
@[simp] theorem seqS_cnt {k : SS → Option (Fl × SS)} : seqS (some (.cnt, s)) k = some (.cnt, s) := id rfl
@[simp] theorem evo_var {f : SS → Option (O D)} : evo (.var i) f s = (match gt s i with | some _ => some (.ok (.pl i) s) | none => none) := id rfl
theorem evo_n {f : SS → Option (O D)} (h : nVar e = true) : evo e f s = bnd (f s) fun d s => some (.ok (.vl d) s) := by
  cases e <;> first | (cases h; done) | rfl
@[simp] theorem evo_lit {f : SS → Option (O D)} : evo (.lit x) f s = bnd (f s) fun d s => some (.ok (.vl d) s) := id rfl
@[simp] theorem evo_glob {z : Str} {f : SS → Option (O D)} : evo (.glob z x) f s = bnd (f s) fun d s => some (.ok (.vl d) s) := id rfl
@[simp] theorem evo_neg {f : SS → Option (O D)} : evo (.neg a) f s = bnd (f s) fun d s => some (.ok (.vl d) s) := id rfl
@[simp] theorem evo_inv {f : SS → Option (O D)} : evo (.inv a) f s = bnd (f s) fun d s => some (.ok (.vl d) s) := id rfl
@[simp] theorem evo_bin {q : BO} {f : SS → Option (O D)} : evo (.bin q a b) f s = bnd (f s) fun d s => some (.ok (.vl d) s) := id rfl
@[simp] theorem evo_cmp {q : CO} {f : SS → Option (O D)} : evo (.cmp q a b) f s = bnd (f s) fun d s => some (.ok (.vl d) s) := id rfl
@[simp] theorem evo_and {f : SS → Option (O D)} : evo (.and a b) f s = bnd (f s) fun d s => some (.ok (.vl d) s) := id rfl
@[simp] theorem evo_or {f : SS → Option (O D)} : evo (.or a b) f s = bnd (f s) fun d s => some (.ok (.vl d) s) := id rfl
@[simp] theorem evo_ite {f : SS → Option (O D)} : evo (.ite c a b) f s = bnd (f s) fun d s => some (.ok (.vl d) s) := id rfl
@[simp] theorem evo_tup {f : SS → Option (O D)} : evo (.tup es) f s = bnd (f s) fun d s => some (.ok (.vl d) s) := id rfl
@[simp] theorem evo_lst {f : SS → Option (O D)} : evo (.lst es) f s = bnd (f s) fun d s => some (.ok (.vl d) s) := id rfl
@[simp] theorem evo_ix {f : SS → Option (O D)} : evo (.ix a b) f s = bnd (f s) fun d s => some (.ok (.vl d) s) := id rfl
@[simp] theorem evo_sl {l h : Eo} {f : SS → Option (O D)} : evo (.sl a l h) f s = bnd (f s) fun d s => some (.ok (.vl d) s) := id rfl
@[simp] theorem evo_rev {f : SS → Option (O D)} : evo (.rev a) f s = bnd (f s) fun d s => some (.ok (.vl d) s) := id rfl
@[simp] theorem evo_call {g : Nat} {f : SS → Option (O D)} : evo (.call g es) f s = bnd (f s) fun d s => some (.ok (.vl d) s) := id rfl
@[simp] theorem evo_prim {g : PR} {f : SS → Option (O D)} : evo (.prim g es) f s = bnd (f s) fun d s => some (.ok (.vl d) s) := id rfl
@[simp] theorem evo_isi {g : TY} {f : SS → Option (O D)} : evo (.isi a g) f s = bnd (f s) fun d s => some (.ok (.vl d) s) := id rfl
@[simp] theorem evo_mut {m : MU} {p : List Int} {f : SS → Option (O D)} : evo (.mut m i p es) f s = bnd (f s) fun d s => some (.ok (.vl d) s) := id rfl
@[simp] theorem evo_comp {ow : List Nat} {p : Pat} {it : It} {q : Eo} {f : SS → Option (O D)} : evo (.comp ow e p it q) f s = bnd (f s) fun d s => some (.ok (.vl d) s) := id rfl
@[simp] theorem view_pl : view s (.pl i) = gt s i := id rfl
@[simp] theorem view_vl : view s (.vl x) = some x := id rfl
@[simp] theorem views_nil : views s [] = some [] := id rfl
@[simp] theorem views_cons {p : Op} {os : List Op} : views s (p :: os) = match view s p, views s os with | some d, some ds => some (d :: ds) | _, _ => none := id rfl
@[simp] theorem up_some : up (some x) s = some (.ok x s) := id rfl
@[simp] theorem fz_int {k : Int} : fz (.int k) = true := id rfl
@[simp] theorem fz_bl {k : Bool} : fz (.bl k) = true := id rfl
@[simp] theorem fz_non : fz .non = true := id rfl
@[simp] theorem fz_str {k : Str} : fz (.str k) = true := id rfl
@[simp] theorem fz_tup : fz (.tup xs) = fzs xs := id rfl
@[simp] theorem fz_lst : fz (.lst o xs) = (!o && fzs xs) := by cases o <;> rfl
@[simp] theorem fzs_nil' : fzs [] = true := id rfl
@[simp] theorem fzs_cons' : fzs (x :: xs) = (fz x && fzs xs) := id rfl
@[simp] theorem bind_nm : VE.bind (.nm i) x s = if i < s.length then some (st s i x) else none := by simp [VE.bind]
@[simp] theorem bind_tp {ps : List Pat} : VE.bind (.tp ps) (.tup xs) s = binds ps xs s := by simp [VE.bind]
@[simp] theorem binds_nil : binds [] [] s = some s := by simp [binds]
@[simp] theorem binds_cons {p : Pat} {ps : List Pat} : binds (p :: ps) (x :: xs) s = (match VE.bind p x s with | some s => binds ps xs s | none => none) := id rfl
@[simp] theorem ixn_nat {m k : Nat} : ixn m (k : Int) = if k < m then some k else none := by
  unfold ixn
  rw [if_pos (Int.natCast_nonneg k)]
  by_cases h : k < m
  · rw [if_pos (by omega), if_pos h]; simp
  · rw [if_neg (by omega), if_neg h]
@[simp] theorem ixn_0 {m : Nat} : ixn m 0 = if 0 < m then some 0 else none := ixn_nat (k := 0)
@[simp] theorem ixn_1 {m : Nat} : ixn m 1 = if 1 < m then some 1 else none := ixn_nat (k := 1)
@[simp] theorem ixn_2 {m : Nat} : ixn m 2 = if 2 < m then some 2 else none := ixn_nat (k := 2)
@[simp] theorem ixn_3 {m : Nat} : ixn m 3 = if 3 < m then some 3 else none := ixn_nat (k := 3)
@[simp] theorem ixn_m1 {m : Nat} : ixn (m + 1) (-1) = some m := by
  unfold ixn
  rw [if_neg (by decide), if_pos (by omega)]
  exact congrArg some (by omega)
@[simp] theorem ixop_lst {k : Int} : ixop (.lst o xs) (.int k) = (ixn xs.length k).bind fun j => xs[j]? := id rfl
@[simp] theorem ixop_tup {k : Int} : ixop (.tup xs) (.int k) = (ixn xs.length k).bind fun j => xs[j]? := id rfl
theorem ixAll_pl {k : D} : ixAll (.pl i) k s = (gt s i).bind fun d => (ixop d k).bind fun g => if fz g then some (.ok g s) else some (.ok (frz g) (pt s i (some (frz d)))) := rfl
theorem ixAll_vl {k : D} : ixAll (.vl x) k s = (ixop x k).bind fun g => if fz g then some (.ok g s) else some (.ok (frz g) s) := rfl
@[simp] theorem setop_l {k : Int} : setop (.lst true xs) (.int k) x = (ixn xs.length k).map fun j => .lst true (xs.set j x) := id rfl
@[simp] theorem LIM_le {n : Nat} : (n ≤ LIM) = (n ≤ 16777216) := id rfl
@[simp] theorem LIM_lt {n : Nat} : (n < LIM) = (n < 16777216) := id rfl
@[simp] theorem fin_ret {m : Nat} : fin m (some (.ret x, s)) = some (.ret x (outs m s)) := id rfl
@[simp] theorem fin_nxt {m : Nat} : fin m (some (.nxt, s)) = some (.ret .non (outs m s)) := id rfl
@[simp] theorem outs_0 : outs 0 s = [] := by simp [outs]
@[simp] theorem outs_s {m : Nat} {a : Sl} : outs (m + 1) (a :: s) = (if a.org then a.d else none) :: outs m s := by simp [outs]
@[simp] theorem mvs_nil : mvs [] s = some ([], s) := id rfl
@[simp] theorem mvs_cons {p : Op} {os : List Op} : mvs (p :: os) s = match mv1 p s with | some (d, s) => (match mvs os s with | some (ds, s) => some (d :: ds, s) | none => none) | none => none := id rfl
@[simp] theorem mv1_vl : mv1 (.vl x) s = some (x, s) := id rfl
@[simp] theorem mv1_pl : mv1 (.pl i) s = match gt s i with | some d => some (d, if fz d then s else pt s i none) | none => none := id rfl
@[simp] theorem bks_nil : bks [] [] s = some s := id rfl
@[simp] theorem bks_cons {p : Op} {os : List Op} {d : Option D} {ds : List (Option D)} : bks (p :: os) (d :: ds) s = match bk1 p d s with | some s => bks os ds s | none => none := id rfl
@[simp] theorem bk1_vl : bk1 (.vl x) d s = some s := id rfl
@[simp] theorem bk1_pl : bk1 (.pl i) d s = match gt s i with | some _ => some s | none => d.map fun d => pt s i (some d) := id rfl
/-- a call, by what the def computes -/
theorem callEnd_eq {g : List D → Option RC} {os : List Op} {ds : List D} {u : List (Option D)} {s1 s2 : SS} (h1 : mvs os s = some (ds, s1)) (h2 : g ds = some (.ret x u)) (h3 : bks os u s1 = some s2) : callEnd g os s = some (.ok x s2) := by
  unfold callEnd
  simp only [h1, h2, h3]
@[simp] theorem forL_nil {f : D → SS → Option (Fl × SS)} : forL f [] s = some (.nxt, s) := id rfl
@[simp] theorem forL_cons {f : D → SS → Option (Fl × SS)} : forL f (x :: xs) s = match f x s with
    | some (.nxt, s) => forL f xs s
    | some (.cnt, s) => forL f xs s
    | some (.brk, s) => some (.nxt, s)
    | r => r := id rfl
@[simp] theorem isPtr_int {k : Int} : isPtr (.int k) = false := id rfl
@[simp] theorem isPtr_bl {k : Bool} : isPtr (.bl k) = false := id rfl
@[simp] theorem isPtr_tup : isPtr (.tup xs) = false := id rfl
@[simp] theorem isPtr_lst : isPtr (.lst o xs) = false := id rfl
@[simp] theorem isPtr_non : isPtr .non = false := id rfl
@[simp] theorem isPtr_str {k : Str} : isPtr (.str k) = false := id rfl
@[simp] theorem prim_lenL : prim .len [.lst o xs] = some (.int xs.length) := id rfl
@[simp] theorem prim_lenT : prim .len [.tup xs] = some (.int xs.length) := id rfl
@[simp] theorem prim_abs {k : Int} : prim .abs [.int k] = some (.int (if k < 0 then -k else k)) := id rfl
@[simp] theorem prim_min {k l : Int} : prim .min2 [.int k, .int l] = some (.int (if l < k then l else k)) := id rfl
@[simp] theorem prim_max {k l : Int} : prim .max2 [.int k, .int l] = some (.int (if l > k then l else k)) := id rfl
@[simp] theorem prim_intB {k : Bool} : prim .int [.bl k] = some (.int (if k then 1 else 0)) := id rfl
@[simp] theorem prim_intI {k : Int} : prim .int [.int k] = some (.int k) := id rfl
end
/-- Euclid's loop, wherever its two slots lie -/
theorem gcd_loop {c : SS → Option (O D)} {bdy : SS → Option (Fl × SS)} {mk : Int → Int → SS} (hc : ∀ a b, c (mk a b) = some (.ok (.bl (decide (0 < b))) (mk a b))) (hb : ∀ a b, 0 < b → bdy (mk a b) = some (.nxt, mk b (a % b))) :
    ∀ (n : Nat) (a b : Int), 0 ≤ a → 0 ≤ b → b.toNat < n → whlL c bdy n (mk a b) = some (.nxt, mk (Int.gcd a b) 0)
  | 0, _, _, _, _, h => by omega
  | n + 1, a, b, ha, hb0, h => by
    show bnds (c (mk a b)) _ = _
    rw [hc]
    by_cases e : 0 < b
    · rw [decide_eq_true e]
      show (match bdy (mk a b) with
        | some (.nxt, s) => whlL c bdy n s
        | some (.cnt, s) => whlL c bdy n s
        | some (.brk, s) => some (.nxt, s)
        | r => r) = _
      rw [hb a b e]
      show whlL c bdy n (mk b (a % b)) = _
      have h1 := Int.emod_nonneg a (show b ≠ 0 by omega)
      have h2 := Int.emod_lt_of_pos a e
      rw [gcd_loop hc hb n b (a % b) hb0 h1 (by omega)]
      have : Int.gcd b (a % b) = Int.gcd a b := by
        rw [Int.gcd_comm b (a % b)]
        obtain ⟨x, rfl⟩ := Int.eq_ofNat_of_zero_le ha
        obtain ⟨y, rfl⟩ := Int.eq_ofNat_of_zero_le hb0
        show Nat.gcd _ _ = Nat.gcd _ _
        have : ((x : Int) % (y : Int)).natAbs = x % y := rfl
        rw [this]
        show Nat.gcd (x % y) y = Nat.gcd x y
        rw [Nat.gcd_comm x y, Nat.gcd_rec y x]
      rw [this]
    · have e0 : b = 0 := by omega
      subst e0
      show some (Fl.nxt, mk a 0) = _
      have : (Int.gcd a 0 : Int) = a := by
        rw [Int.gcd_zero_right]
        omega
      rw [this]
/-- a drawn stream -/
def Strm (S : D) : Prop := ∃ a b, S = .lst true [.int a, .int b] ∧ Sm 100 b
theorem Strm.fz {S : D} (h : Strm S) : fz S = false := by
  obtain ⟨a, b, rfl, _⟩ := h
  rfl
end VE

namespace VE
open PySem L2
theorem forL_inv {f : D → SS → Option (Fl × SS)} (P : SS → Prop) : ∀ {xs : List D} {s : SS}, P s → (∀ x ∈ xs, ∀ s, P s → ∃ s', (f x s = some (.nxt, s') ∨ f x s = some (.cnt, s')) ∧ P s') → ∃ s', forL f xs s = some (.nxt, s') ∧ P s'
  | [], s, h, _ => ⟨s, rfl, h⟩
  | x :: xs, s, h, k => by
    obtain ⟨s1, h1, h2⟩ := k x List.mem_cons_self s h
    obtain ⟨s2, h3, h4⟩ := forL_inv P h2 fun y hy => k y (List.mem_cons_of_mem _ hy)
    refine ⟨s2, ?_, h4⟩
    rcases h1 with h1 | h1 <;> simp [h1, h3]
def eqDs : List D → List D → Bool
  | [], [] => true
  | x :: xs, y :: ys => eqD x y && eqDs xs ys
  | _, _ => false
theorem eqAll_eq : ∀ xs ys : List D, PyData.eqvAll (toPys xs) (toPys ys) = eqDs xs ys
  | [], [] => by simp [toPys, PyData.eqvAll, eqDs]
  | [], _ :: _ => by simp [toPys, PyData.eqvAll, eqDs]
  | _ :: _, [] => by simp [toPys, PyData.eqvAll, eqDs]
  | x :: xs, y :: ys => by simp [toPys, PyData.eqvAll, eqDs, eqAll_eq xs ys, eqD]
@[simp] theorem eqD_tup {xs ys : List D} : eqD (.tup xs) (.tup ys) = eqDs xs ys := by
  simp [eqD, toPy, PyData.eqv, eqAll_eq]
@[simp] theorem eqD_lst {o p : Bool} {xs ys : List D} : eqD (.lst o xs) (.lst p ys) = eqDs xs ys := by
  simp [eqD, toPy, PyData.eqv, eqAll_eq]
@[simp] theorem eqD_tl {p : Bool} {xs ys : List D} : eqD (.tup xs) (.lst p ys) = false := by
  simp [eqD, toPy, PyData.eqv]
@[simp] theorem eqD_lt {p : Bool} {xs ys : List D} : eqD (.lst p xs) (.tup ys) = false := by
  simp [eqD, toPy, PyData.eqv]
@[simp] theorem eqD_bl {x y : Bool} : eqD (.bl x) (.bl y) = decide (x = y) := by
  cases x <;> cases y <;> rfl
@[simp] theorem eqD_str {x y : Str} : eqD (.str x) (.str y) = decide (x = y) := by
  simp [eqD, toPy, PyData.eqv]
  by_cases h : x = y <;> simp [h]
@[simp] theorem eqDs_nn : eqDs [] [] = true := id rfl
@[simp] theorem eqDs_nc {x : D} {xs : List D} : eqDs [] (x :: xs) = false := id rfl
@[simp] theorem eqDs_cn {x : D} {xs : List D} : eqDs (x :: xs) [] = false := id rfl
@[simp] theorem eqDs_cc {x y : D} {xs ys : List D} : eqDs (x :: xs) (y :: ys) = (eqD x y && eqDs xs ys) := id rfl
@[simp] theorem okd_tup {n : Nat} {xs : List D} : okd (n + 1) (.tup xs) = okds n xs := id rfl
@[simp] theorem okd_lst {n : Nat} {o : Bool} {xs : List D} : okd (n + 1) (.lst o xs) = okds n xs := id rfl
@[simp] theorem okds_nil {n : Nat} : okds n [] = true := by simp [okds]
@[simp] theorem okds_cons {n : Nat} {x : D} {xs : List D} : okds n (x :: xs) = (okd n x && okds n xs) := by simp [okds]
@[simp] theorem okd_bl {n : Nat} {i : Bool} : okd n (.bl i) = true := by cases n <;> rfl
@[simp] theorem okd_non {n : Nat} : okd n .non = true := by cases n <;> rfl
theorem cmp_eqD {x y : D} : cmpop .eq x y = if okd 60 x && okd 60 y then some (.bl (eqD x y)) else none := by
  cases x <;> cases y <;> rfl
theorem cmp_neD {x y : D} : cmpop .ne x y = if okd 60 x && okd 60 y then some (.bl (!eqD x y)) else none := by
  cases x <;> cases y <;> rfl
theorem gcd_pos {a b : Int} (h : 0 < b) : (0 : Int) < (Int.gcd a b : Int) := by
  have : 0 < Int.gcd a b := Int.gcd_pos_of_ne_zero_right a (by omega)
  omega
theorem gcd_le {a b : Int} (h : 0 < b) : (Int.gcd a b : Int) ≤ b := Int.gcd_le_right a h
theorem Sm.gcd {a b : Int} {k : Nat} (h : 0 < b) (hb : Sm k b) : Sm k (Int.gcd a b : Int) := by
  have := gcd_le (a := a) h
  have := gcd_pos (a := a) h
  unfold Sm at *
  omega
theorem Sm.div {a g : Int} {k : Nat} (h : Sm k a) (ha : 0 ≤ a) (hg : 0 < g) : Sm k (a / g) := by
  have h1 := Int.ediv_nonneg ha (Int.le_of_lt hg)
  have h2 := Int.ediv_le_self g ha
  unfold Sm at *
  omega
theorem gcd_dvd_pos {a b : Int} (h : 0 < b) : 0 < b / (Int.gcd a b : Int) := by
  have hg := gcd_pos (a := a) h
  have hl := gcd_le (a := a) h
  generalize (Int.gcd a b : Int) = g at *
  have := Int.le_ediv_of_mul_le hg (show 1 * g ≤ b by omega)
  omega
theorem fo_inv {Φ : Phi} {w : Nat} {p : Pat} {it : It} {r : Ss} {xs : List D} {s s1 : SS} (P : SS → Prop) (h : evt Φ it s = some (.ok xs s1)) (hP : P s1)
    (step : ∀ x ∈ xs, ∀ s, P s → ∃ s2 s', VE.bind p x s = some s2 ∧ (exs Φ w r s2 = some (.nxt, s') ∨ exs Φ w r s2 = some (.cnt, s')) ∧ P s') : ∃ s', ex Φ w (.fo p it r) s = some (.nxt, s') ∧ P s' := by
  rw [ex_fo, h]
  exact forL_inv P hP fun x hx s hs => by
    obtain ⟨s2, s', h1, h2, h3⟩ := step x hx s hs
    exact ⟨s', by simpa [h1] using h2, h3⟩
theorem mu_popAt {xs : List D} {j : Nat} {y : D} (hj : j < 1000000000) (h : xs[j]? = some y) : muop .popAt xs [.int (j : Int)] = some (xs.eraseIdx j, y) := by
  have hl := (List.getElem?_eq_some_iff.mp h).1
  have hB : okB (-(2 ^ 62) < (j : Int) ∧ (j : Int) < 2 ^ 62) = true := okB_iff.mpr (by omega)
  show (if okB (-(2 ^ 62) < (j : Int) ∧ (j : Int) < 2 ^ 62) then (ixn xs.length j).bind fun j => (xs[j]?).map fun y => (xs.eraseIdx j, y) else none) = _
  rw [if_pos hB, ixn_nat, if_pos hl]
  show (xs[j]?).map _ = _
  rw [h]
  rfl
theorem mu_append {xs : List D} {d : D} (h : xs.length < 16777216) : muop .append xs [d] = some (xs ++ [d], .non) := if_pos h
@[simp] theorem geto_n {xs : List D} : geto [] (.lst true xs) = some xs := id rfl
@[simp] theorem puto_n {d e : D} : puto d [] e = d := by cases e <;> rfl
theorem okds_ints (n : Nat) (ns : List Int) : okds n (ns.map D.int) = true := by
  induction ns with
  | nil => simp
  | cons a t ih => simp [ih]
theorem eqDs_ints : ∀ ns ms : List Int, eqDs (ns.map D.int) (ms.map D.int) = decide (ns = ms)
  | [], [] => by simp
  | [], _ :: _ => by simp
  | _ :: _, [] => by simp
  | n :: ns, m :: ms => by
    simp [eqDs_ints ns ms]
/-- comprehensions -/
@[simp] theorem ev_comp {Φ : Phi} {own : List Nat} {elt : E} {p : Pat} {it : It} {cond : Eo} {s : SS} : ev Φ (.comp own elt p it cond) s = compE (evt Φ it) p (evc Φ cond) (ev Φ elt) own s := id rfl
theorem compL_fm {f : D → SS → Option (O (Option D))} {own : List Nat} (g : D → Option D) {s0 : SS} : ∀ {xs : List D} {acc : List D}, acc.length + xs.length ≤ 16777216 → (∀ x ∈ xs, ∃ s', f x s0 = some (.ok (g x) s') ∧ wips s' own = s0) → compL f own xs acc s0 = some (.ok (.lst true (acc ++ xs.filterMap g)) s0)
  | [], acc, _, _ => by simp [compL]
  | x :: xs, acc, hl, h => by
    obtain ⟨s', h1, h2⟩ := h x List.mem_cons_self
    have hl' : acc.length + (xs.length + 1) ≤ 16777216 := hl
    unfold compL
    rw [h1]
    cases hg : g x with
    | none =>
      show compL f own xs acc (wips s' own) = _
      rw [h2, compL_fm g (by omega) fun y hy => h y (List.mem_cons_of_mem _ hy)]
      simp [hg]
    | some d =>
      show (if acc.length < LIM then compL f own xs (acc ++ [d]) (wips s' own) else none) = _
      rw [if_pos (show acc.length < LIM from (show acc.length < 16777216 by omega)), h2, compL_fm g (by simp; omega) fun y hy => h y (List.mem_cons_of_mem _ hy)]
      simp [hg]
theorem comp_pure {rt : SS → Option (O (List D))} {pt : Pat} {rc : SS → Option (O Bool)} {re : SS → Option (O D)} {own : List Nat} {s s1 : SS} {xs : List D} (g : D → Option D) (h : rt s = some (.ok xs s1)) (ho : ownOk s1 own = true) (hl : xs.length ≤ 16777216)
    (hf : ∀ x ∈ xs, ∃ s', compF pt rc re x (wips s1 own) = some (.ok (g x) s') ∧ wips s' own = wips s1 own) : compE rt pt rc re own s = some (.ok (.lst true (xs.filterMap g)) (rsts (wips s1 own) s1 own)) := by
  unfold compE
  rw [h]
  show (if ownOk s1 own then (match compL (compF pt rc re) own xs [] (wips s1 own) with
      | some (.ok d t) => some (O.ok d (rsts t s1 own))
      | _ => none) else none) = _
  rw [if_pos ho, compL_fm g (by simpa using hl) hf]
  simp
theorem forL_ix {f : D → SS → Option (Fl × SS)} (P : Nat → SS → Prop) : ∀ {xs : List D} {s : SS} {n : Nat}, P n s → (∀ i x, xs[i]? = some x → ∀ s, P (n + i) s → ∃ s', (f x s = some (.nxt, s') ∨ f x s = some (.cnt, s')) ∧ P (n + i + 1) s') → ∃ s', forL f xs s = some (.nxt, s') ∧ P (n + xs.length) s'
  | [], s, n, h, _ => ⟨s, rfl, h⟩
  | x :: xs, s, n, h, k => by
    obtain ⟨s1, h1, h2⟩ := k 0 x rfl s h
    obtain ⟨s2, h3, h4⟩ := forL_ix (f := f) P (xs := xs) (n := n + 1) h2 fun i y hy t ht => by
      have := k (i + 1) y (by simpa using hy) t (by rw [← Nat.add_assoc, Nat.add_right_comm]; exact ht)
      rw [show n + 1 + i = n + (i + 1) by omega]
      exact this
    refine ⟨s2, ?_, ?_⟩
    · rcases h1 with h1 | h1 <;> simp [h1, h3]
    · rw [List.length_cons, show n + (xs.length + 1) = n + 1 + xs.length by omega]
      exact h4
theorem fo_ix {Φ : Phi} {w : Nat} {p : Pat} {it : It} {r : Ss} {xs : List D} {s s1 : SS} (P : Nat → SS → Prop) (h : evt Φ it s = some (.ok xs s1)) (hP : P 0 s1)
    (step : ∀ i x, xs[i]? = some x → ∀ s, P i s → ∃ s2 s', VE.bind p x s = some s2 ∧ (exs Φ w r s2 = some (.nxt, s') ∨ exs Φ w r s2 = some (.cnt, s')) ∧ P (i + 1) s') : ∃ s', ex Φ w (.fo p it r) s = some (.nxt, s') ∧ P xs.length s' := by
  rw [ex_fo, h]
  obtain ⟨s', h1, h2⟩ := forL_ix (f := fun x s => match VE.bind p x s with | some s => exs Φ w r s | none => none) P (n := 0) hP fun i x hx s hs => by
    rw [Nat.zero_add] at hs ⊢
    obtain ⟨s2, s', h1, h2, h3⟩ := step i x hx s hs
    exact ⟨s', by simpa [h1] using h2, h3⟩
  rw [Nat.zero_add] at h2
  exact ⟨s', h1, h2⟩
theorem rng_get {lo : Int} {n i : Nat} {x : D} (h : (rng lo n)[i]? = some x) : i < n ∧ x = .int (lo + (i : Int)) := by
  unfold rng at h
  rw [List.getElem?_map] at h
  have hi : i < n := by
    rcases Nat.lt_or_ge i n with h1 | h1
    · exact h1
    · rw [List.getElem?_eq_none (by simpa using h1)] at h; cases h
  rw [List.getElem?_range hi] at h
  cases h
  exact ⟨hi, rfl⟩
@[simp] theorem rng_length {lo : Int} {n : Nat} : (rng lo n).length = n := by simp [rng]
theorem rngOk_of {i : Int} (h : -1000000000 ≤ i ∧ i ≤ 1000000000) : rngOk i = true := okB_iff.mpr (by omega)
/-- two ints in order -/
theorem sorted2 {x y : Int} : ∃ a b : Int, (a = x ∧ b = y ∨ a = y ∧ b = x) ∧ a ≤ b ∧ prim .sorted [.lst true [.int x, .int y]] = some (.lst true [.int a, .int b]) := by
  by_cases h : x ≤ y
  · exact ⟨x, y, .inl ⟨rfl, rfl⟩, h, by simp [prim, intsD, srtI, insI, h]⟩
  · exact ⟨y, x, .inr ⟨rfl, rfl⟩, by omega, by simp [prim, intsD, srtI, insI, h]⟩
/-- a tie as it is told -/
def Tie (d : D) : Prop := ∃ a b p q : Int, d = .tup [.int a, .int b, .tup [.int p, .int q]]
theorem Tie.fz {d : D} (h : Tie d) : fz d = true := by
  obtain ⟨a, b, p, q, rfl⟩ := h
  rfl
theorem sorted_ties {o : Bool} {xs : List D} (h : ∀ d ∈ xs, Tie d) (hl : xs.length ≤ 1000000) : ∃ ys, prim .sorted [.lst o xs] = some (.lst true ys) ∧ ys.Perm xs := by
  cases xs with
  | nil => exact ⟨[], by simp [prim, intsD, srtI], .refl _⟩
  | cons x r =>
    have hk : okB (srtOk (x :: r)) = true := by
      refine okB_iff.mpr ⟨?_, .inl ?_, ?_, ?_, ?_⟩
      · intro d hd e he
        obtain ⟨d', hd', rfl⟩ := List.mem_map.mp hd
        obtain ⟨e', he', rfl⟩ := List.mem_map.mp he
        obtain ⟨_, _, _, _, rfl⟩ := h d' hd'
        obtain ⟨_, _, _, _, rfl⟩ := h e' he'
        rfl
      · intro d hd
        obtain ⟨d', hd', rfl⟩ := List.mem_map.mp hd
        obtain ⟨_, _, _, _, rfl⟩ := h d' hd'
        exact ⟨_, _, rfl⟩
      · have : ∀ ds : List D, (∀ d ∈ ds, Tie d) → nds ds = true := by
          intro ds
          induction ds with
          | nil => intro _; rfl
          | cons a t ih =>
            intro hh
            obtain ⟨_, _, _, _, rfl⟩ := hh a List.mem_cons_self
            have := ih fun d hd => hh d (List.mem_cons_of_mem _ hd)
            show (true && nds t) = true
            rw [this]
            rfl
        exact this _ h
      · intro d hd
        obtain ⟨_, _, _, _, rfl⟩ := h d hd
        simp [toPy, toPys, PyData.depth, PyData.depthAll]
      · show (x :: r).length ≤ 16777216
        omega
    have hf : fzs (x :: r) = true := fzs_of fun d hd => (h d hd).fz
    have hn : intsD (x :: r) = none := by
      obtain ⟨_, _, _, _, rfl⟩ := h x List.mem_cons_self
      rfl
    refine ⟨srtD (x :: r), ?_, List.mergeSort_perm _ _⟩
    show (match intsD (x :: r) with | some ns => some (D.lst true ((srtI ns).map D.int)) | none => if fzs (x :: r) && okB (srtOk (x :: r)) then some (.lst true (srtD (x :: r))) else none) = _
    rw [hn, hf, hk]
    rfl
end VE

namespace VE
theorem Sm.num {k : Nat} {i : Int} (n : Nat) (h0 : 0 ≤ i) (h : i ≤ n) (hn : n < 2 ^ k) : Sm k i := Sm.of (n := n) (by omega) hn
def redA (a b : Int) : Int := a / Int.gcd a b
def redB (a b : Int) : Int := b / Int.gcd a b
theorem red_mul (a b : Int) (hb : 0 < b) : redA a b * Int.gcd a b = a ∧ redB a b * Int.gcd a b = b :=
  ⟨Int.ediv_mul_cancel (Int.gcd_dvd_left a b), Int.ediv_mul_cancel (Int.gcd_dvd_right a b)⟩
theorem red_pos {a b : Int} (hb : 0 < b) : 0 < redB a b := gcd_dvd_pos hb
theorem red_nonneg {a b : Int} (ha : 0 ≤ a) : 0 ≤ redA a b := Int.ediv_nonneg ha (Int.natCast_nonneg _)
theorem red_cross {a b : Int} (hb : 0 < b) : redA a b * b = a * redB a b := by
  obtain ⟨h1, h2⟩ := red_mul a b hb
  generalize (Int.gcd a b : Int) = g at h1 h2
  generalize redA a b = x at *
  generalize redB a b = y at *
  rw [← h1, ← h2]
  rw [Int.mul_assoc, Int.mul_comm g y]
theorem red_cop {a b : Int} (hb : 0 < b) : Int.gcd (redA a b) (redB a b) = 1 := by
  have hg : 0 < Int.gcd a b := Int.gcd_pos_of_ne_zero_right a (by omega)
  exact Int.gcd_ediv_gcd_ediv_gcd hg
theorem dvd_cop {k m n : Int} (h : Int.gcd k m = 1) (hd : k ∣ m * n) : k ∣ n := by
  have h2 : k.natAbs ∣ m.natAbs * n.natAbs := by
    rw [← Int.natAbs_mul]
    exact Int.natAbs_dvd_natAbs.mpr hd
  exact Int.natAbs_dvd_natAbs.mp (Nat.Coprime.dvd_of_dvd_mul_left (show Nat.Coprime k.natAbs m.natAbs from h) h2)
/-- reduced pairs that are alike are one -/
theorem cop_uniq {a b c d : Int} (hb : 0 < b) (hd : 0 < d) (h1 : Int.gcd a b = 1) (h2 : Int.gcd c d = 1) (h : a * d = c * b) : a = c ∧ b = d := by
  have e1 : b ∣ d := by
    have : b ∣ a * d := ⟨c, by rw [h, Int.mul_comm]⟩
    exact dvd_cop (by rw [Int.gcd_comm]; exact h1) this
  have e2 : d ∣ b := by
    have : d ∣ c * b := ⟨a, by rw [← h, Int.mul_comm]⟩
    exact dvd_cop (by rw [Int.gcd_comm]; exact h2) this
  have e3 : b = d := Int.dvd_antisymm (by omega) (by omega) e1 e2
  subst e3
  exact ⟨Int.eq_of_mul_eq_mul_right (by omega) h, rfl⟩
theorem red_eq {a b c d : Int} (hb : 0 < b) (hd : 0 < d) (h : a * d = c * b) : redA a b = redA c d ∧ redB a b = redB c d := by
  refine cop_uniq (red_pos hb) (red_pos hd) (red_cop hb) (red_cop hd) ?_
  obtain ⟨h1, h2⟩ := red_mul a b hb
  obtain ⟨h3, h4⟩ := red_mul c d hd
  have g1 := gcd_pos (a := a) hb
  have g2 := gcd_pos (a := c) hd
  generalize (Int.gcd a b : Int) = g at *
  generalize (Int.gcd c d : Int) = k at *
  generalize redA a b = x at *
  generalize redB a b = y at *
  generalize redA c d = z at *
  generalize redB c d = w at *
  subst h1 h2 h3 h4
  have : (x * w) * (g * k) = (z * y) * (g * k) := by
    calc (x * w) * (g * k) = x * g * (w * k) := by ac_rfl
      _ = z * k * (y * g) := h
      _ = (z * y) * (g * k) := by ac_rfl
  exact Int.eq_of_mul_eq_mul_right (by have := Int.mul_pos g1 g2; omega) this
theorem red_self {a b : Int} (h : Int.gcd a b = 1) : redA a b = a ∧ redB a b = b := by
  unfold redA redB
  rw [h]
  simp
/-- one more -/
theorem red_plus {X B p q : Int} (hB : 0 < B) (hq : 0 < q) (hd : q ∣ B) :
    redA (redA X B * q + p * redB X B) (redB X B * q) = redA (X + p * (B / q)) B ∧ redB (redA X B * q + p * redB X B) (redB X B * q) = redB (X + p * (B / q)) B := by
  have hb := red_pos (a := X) hB
  refine red_eq (Int.mul_pos hb hq) hB ?_
  have hc := red_cross (a := X) hB
  obtain ⟨k, rfl⟩ := hd
  rw [Int.mul_ediv_cancel_left k (by omega)]
  generalize redA X (q * k) = x at *
  generalize redB X (q * k) = y at *
  calc (x * q + p * y) * (q * k) = (x * (q * k)) * q + p * y * (q * k) := by rw [Int.add_mul]; congr 1; ac_rfl
    _ = (X * y) * q + p * y * (q * k) := by rw [hc]
    _ = (X + p * k) * (y * q) := by rw [Int.add_mul]; congr 1 <;> ac_rfl
theorem red_less {X B p q : Int} (hB : 0 < B) (hq : 0 < q) (hd : q ∣ B) :
    redA (redA X B * q - p * redB X B) (redB X B * q) = redA (X - p * (B / q)) B ∧ redB (redA X B * q - p * redB X B) (redB X B * q) = redB (X - p * (B / q)) B := by
  have := red_plus (X := X) (p := -p) hB hq hd
  rw [Int.neg_mul, Int.neg_mul, ← Int.sub_eq_add_neg, ← Int.sub_eq_add_neg] at this
  exact this
open PySem L2
theorem compL_rel {f : D → SS → Option (O (Option D))} {own : List Nat} (P : SS → Prop) (R : D → Prop) : ∀ {xs : List D} {acc : List D} {s : SS}, P s → acc.length + xs.length ≤ 16777216 → (∀ x ∈ xs, ∀ s, P s → ∃ d s', f x s = some (.ok (some d) s') ∧ R d ∧ P (wips s' own)) →
    ∃ ds s', compL f own xs acc s = some (.ok (.lst true (acc ++ ds)) s') ∧ ds.length = xs.length ∧ (∀ d ∈ ds, R d) ∧ P s'
  | [], acc, s, h, _, _ => ⟨[], s, by simp [compL], rfl, by simp, h⟩
  | x :: xs, acc, s, h, hl, k => by
    obtain ⟨d, s', h1, h2, h3⟩ := k x List.mem_cons_self s h
    have hl' : acc.length + (xs.length + 1) ≤ 16777216 := hl
    obtain ⟨ds, s2, h4, h5, h6, h7⟩ := compL_rel P R (xs := xs) (acc := acc ++ [d]) h3 (by simp; omega) fun y hy => k y (List.mem_cons_of_mem _ hy)
    refine ⟨d :: ds, s2, ?_, by simp [h5], fun z hz => ?_, h7⟩
    · unfold compL
      rw [h1]
      show (if acc.length < LIM then compL f own xs (acc ++ [d]) (wips s' own) else none) = _
      rw [if_pos (show acc.length < LIM from (show acc.length < 16777216 by omega)), h4]
      simp
    · rcases List.mem_cons.mp hz with rfl | hz
      · exact h2
      · exact h6 z hz
theorem comp_rel {rt : SS → Option (O (List D))} {pt : Pat} {rc : SS → Option (O Bool)} {re : SS → Option (O D)} {own : List Nat} {s s1 : SS} {xs : List D} (P : SS → Prop) (R : D → Prop) (h : rt s = some (.ok xs s1)) (ho : ownOk s1 own = true) (hP : P (wips s1 own)) (hl : xs.length ≤ 16777216)
    (hf : ∀ x ∈ xs, ∀ s, P s → ∃ d s', compF pt rc re x s = some (.ok (some d) s') ∧ R d ∧ P (wips s' own)) : ∃ ds t, compE rt pt rc re own s = some (.ok (.lst true ds) (rsts t s1 own)) ∧ ds.length = xs.length ∧ (∀ d ∈ ds, R d) ∧ P t := by
  obtain ⟨ds, t, h1, h2, h3, h4⟩ := compL_rel (f := compF pt rc re) P R (acc := []) hP (by simpa using hl) hf
  refine ⟨ds, t, ?_, h2, h3, h4⟩
  unfold compE
  rw [h]
  show (if ownOk s1 own then (match compL (compF pt rc re) own xs [] (wips s1 own) with
      | some (.ok d t) => some (O.ok d (rsts t s1 own))
      | _ => none) else none) = _
  rw [if_pos ho, h1]
  rfl
@[simp] theorem evt_zip {Φ : Phi} {a b : E} {s : SS} : evt Φ (.zip a b) s = bnd (ev Φ a s) fun d s => bnd (ev Φ b s) fun e s => (match listItems (frz d), listItems (frz e) with | some xs, some ys => some (.ok ((xs.zip ys).map fun p => .tup [p.1, p.2]) s) | _, _ => none) := id rfl
theorem prim_sum {o : Bool} {ns : List Int} : prim .sum [.lst o (ns.map D.int)] = some (.int ns.sum) := by
  have : intsD (ns.map D.int) = some ns := by
    induction ns with
    | nil => rfl
    | cons a t ih => simp [intsD, ih]
  show (intsD (ns.map D.int)).map _ = _
  rw [this]
  rfl
theorem bin_rep {xs : List D} {k : Int} (f : fzs xs = true) (h0 : 0 ≤ k) (h1 : k ≤ 1000000) (hl : xs.length * k.toNat ≤ 1000000) : binop .mul (.lst true xs) (.int k) = some (.lst true (List.replicate k.toNat xs).flatten) := by
  have hB : okB (0 ≤ k ∧ k < 2 ^ 62 ∧ xs.length * k.toNat ≤ LIM) = true := okB_iff.mpr ⟨h0, by omega, (show xs.length * k.toNat ≤ 16777216 by omega)⟩
  show (if fzs xs && okB (0 ≤ k ∧ k < 2 ^ 62 ∧ xs.length * k.toNat ≤ LIM) then some (D.lst true (List.replicate k.toNat xs).flatten) else none) = _
  rw [f, hB]
  rfl
theorem bin_cat {o p : Bool} {xs ys : List D} (f : fzs xs = true) (g : fzs ys = true) (h : xs.length + ys.length ≤ 1000000) : binop .add (.lst o xs) (.lst p ys) = some (.lst true (xs ++ ys)) := by
  show (if fzs xs && fzs ys && decide (xs.length + ys.length ≤ LIM) then some (D.lst true (xs ++ ys)) else none) = _
  rw [f, g, decide_eq_true (show xs.length + ys.length ≤ LIM from (show xs.length + ys.length ≤ 16777216 by omega))]
  rfl
end VE

set_option maxHeartbeats 0
namespace WK
open PySem PySem.Spec PyProof.Rows L2 VE
def top (i : Nat) : Stmt := PySem.Challenge.pw_cartways_k03_whole_lengths.main.body.getD i (.Pass ⟨0, 0, 0, 0⟩)
def FUEL : Nat := 2 ^ 4000
abbrev ix_greatest_common : Nat := 0
abbrev ix_length : Nat := 1
abbrev ix_plus : Nat := 2
abbrev ix_less : Nat := 3
abbrev ix_times : Nat := 4
abbrev ix_is_less : Nat := 5
abbrev ix__law_stream : Nat := 6
abbrev ix__law_take : Nat := 7
abbrev ix__law_fraction : Nat := 8
abbrev ix__law_turned_numbers : Nat := 9
abbrev ix__law_drawn : Nat := 10
abbrev ix__law_summed : Nat := 11
abbrev ix_law : Nat := 12
abbrev s0 : Stmt := top 4
abbrev N0 : List Str := ["first", "second"]
def b_greatest_common_1 : Ss := (.cons (.par 0 1 (.var 1) (.bin .mod (.var 0) (.var 1)))
  .nil)
/-- greatest_common -/
def b_greatest_common : Ss := (.cons (.whl (.cmp .gt (.var 1) (.lit (.int 0))) b_greatest_common_1)
  (.cons (.ret (.var 0))
  .nil))
def fn_greatest_common : Fn := ⟨2, 2, b_greatest_common⟩
abbrev fn0 := fn_greatest_common
theorem sc0 : FnScope N0 ["first", "second"] (defScope s0) := ⟨rfl, rfl, rfl, by decide +kernel, rfl, by decide +kernel, by decide +kernel⟩
abbrev s1 : Stmt := top 5
abbrev N1 : List Str := ["above", "below", "number", "share"]
def b_length_1 : Ss := (.cons (.ife (.or (.inv (.isi (.var 2) .int)) (.isi (.var 2) .bool)) (.cons .nev
  .nil) .nil)
  .nil)
/-- length -/
def b_length : Ss := (.cons (.fo (.nm 2) (.ex (.tup (.cons (.var 0) (.cons (.var 1) .nil)))) b_length_1)
  (.cons (.ife (.or (.cmp .lt (.var 0) (.lit (.int 0))) (.cmp .lt (.var 1) (.lit (.int 1)))) (.cons .nev
  .nil) .nil)
  (.cons (.asg (.nm 3) (.call ix_greatest_common (.cons (.var 0) (.cons (.var 1) .nil))))
  (.cons (.ret (.tup (.cons (.bin .div (.var 0) (.var 3)) (.cons (.bin .div (.var 1) (.var 3)) .nil))))
  .nil))))
def fn_length : Fn := ⟨2, 4, b_length⟩
abbrev fn1 := fn_length
theorem sc1 : FnScope N1 ["above", "below"] (defScope s1) := ⟨rfl, rfl, rfl, by decide +kernel, rfl, by decide +kernel, by decide +kernel⟩
abbrev s2 : Stmt := top 6
abbrev N2 : List Str := ["first", "second"]
/-- plus -/
def b_plus : Ss := (.cons (.ret (.call ix_length (.cons (.bin .add (.bin .mul (.ix (.var 0) (.lit (.int 0))) (.ix (.var 1) (.lit (.int 1)))) (.bin .mul (.ix (.var 1) (.lit (.int 0))) (.ix (.var 0) (.lit (.int 1))))) (.cons (.bin .mul (.ix (.var 0) (.lit (.int 1))) (.ix (.var 1) (.lit (.int 1)))) .nil))))
  .nil)
def fn_plus : Fn := ⟨2, 2, b_plus⟩
abbrev fn2 := fn_plus
theorem sc2 : FnScope N2 ["first", "second"] (defScope s2) := ⟨rfl, rfl, rfl, by decide +kernel, rfl, by decide +kernel, by decide +kernel⟩
abbrev s3 : Stmt := top 7
abbrev N3 : List Str := ["first", "second"]
/-- less -/
def b_less : Ss := (.cons (.ret (.call ix_length (.cons (.bin .sub (.bin .mul (.ix (.var 0) (.lit (.int 0))) (.ix (.var 1) (.lit (.int 1)))) (.bin .mul (.ix (.var 1) (.lit (.int 0))) (.ix (.var 0) (.lit (.int 1))))) (.cons (.bin .mul (.ix (.var 0) (.lit (.int 1))) (.ix (.var 1) (.lit (.int 1)))) .nil))))
  .nil)
def fn_less : Fn := ⟨2, 2, b_less⟩
abbrev fn3 := fn_less
theorem sc3 : FnScope N3 ["first", "second"] (defScope s3) := ⟨rfl, rfl, rfl, by decide +kernel, rfl, by decide +kernel, by decide +kernel⟩
abbrev s4 : Stmt := top 8
abbrev N4 : List Str := ["first", "often"]
/-- times -/
def b_times : Ss := (.cons (.ret (.call ix_length (.cons (.bin .mul (.ix (.var 0) (.lit (.int 0))) (.var 1)) (.cons (.ix (.var 0) (.lit (.int 1))) .nil))))
  .nil)
def fn_times : Fn := ⟨2, 2, b_times⟩
abbrev fn4 := fn_times
theorem sc4 : FnScope N4 ["first", "often"] (defScope s4) := ⟨rfl, rfl, rfl, by decide +kernel, rfl, by decide +kernel, by decide +kernel⟩
abbrev s5 : Stmt := top 9
abbrev N5 : List Str := ["first", "second"]
/-- is_less -/
def b_is_less : Ss := (.cons (.ret (.cmp .lt (.bin .mul (.ix (.var 0) (.lit (.int 0))) (.ix (.var 1) (.lit (.int 1)))) (.bin .mul (.ix (.var 1) (.lit (.int 0))) (.ix (.var 0) (.lit (.int 1))))))
  .nil)
def fn_is_less : Fn := ⟨2, 2, b_is_less⟩
abbrev fn5 := fn_is_less
theorem sc5 : FnScope N5 ["first", "second"] (defScope s5) := ⟨rfl, rfl, rfl, by decide +kernel, rfl, by decide +kernel, by decide +kernel⟩
abbrev s6 : Stmt := top 11
abbrev N6 : List Str := ["_law_script", "_law_k", "_law_cell", "_law_mixed"]
/-- _law_stream -/
def b__law_stream : Ss := (.cons (.ife (.cmp .lt (.var 1) (.prim .len (.cons (.var 0) .nil))) (.cons (.asg (.nm 2) (.prim .abs (.cons (.ix (.var 0) (.var 1)) .nil)))
  (.cons (.asg (.nm 3) (.bin .add (.bin .add (.bin .mod (.var 2) (.lit (.int 2147483629))) (.bin .mul (.var 1) (.var 1))) (.lit (.int 1))))
  (.cons (.ife (.cmp .lt (.var 2) (.bin .pow (.lit (.int 10)) (.lit (.int 18)))) (.cons (.asg (.nm 2) (.lit (.int 0)))
  .nil) .nil)
  (.cons (.ret (.lst (.cons (.var 2) (.cons (.var 3) .nil))))
  .nil)))) .nil)
  (.cons (.ret (.lst (.cons (.lit (.int 0)) (.cons (.bin .add (.bin .mul (.var 1) (.var 1)) (.lit (.int 11))) .nil))))
  .nil))
def fn__law_stream : Fn := ⟨2, 4, b__law_stream⟩
abbrev fn6 := fn__law_stream
theorem sc6 : FnScope N6 ["_law_script", "_law_k"] (defScope s6) := ⟨rfl, rfl, rfl, by decide +kernel, rfl, by decide +kernel, by decide +kernel⟩
abbrev s7 : Stmt := top 12
abbrev N7 : List Str := ["_law_stream_here", "_law_most", "_law_digit"]
/-- _law_take -/
def b__law_take : Ss := (.cons (.ife (.cmp .eq (.ix (.var 0) (.lit (.int 0))) (.lit (.int 0))) (.cons (.seti 0 (.lit (.int 1)) (.bin .mod (.bin .add (.bin .mul (.ix (.var 0) (.lit (.int 1))) (.lit (.int 48271))) (.lit (.int 12345))) (.lit (.int 2147483647))))
  (.cons (.ret (.bin .mod (.bin .mod (.bin .mul (.ix (.var 0) (.lit (.int 1))) (.ix (.var 0) (.lit (.int 1)))) (.lit (.int 2147483629))) (.var 1)))
  .nil)) .nil)
  (.cons (.asg (.nm 2) (.bin .mod (.ix (.var 0) (.lit (.int 0))) (.var 1)))
  (.cons (.seti 0 (.lit (.int 0)) (.bin .div (.ix (.var 0) (.lit (.int 0))) (.var 1)))
  (.cons (.retv 2)
  .nil))))
def fn__law_take : Fn := ⟨2, 3, b__law_take⟩
abbrev fn7 := fn__law_take
theorem sc7 : FnScope N7 ["_law_stream_here", "_law_most"] (defScope s7) := ⟨rfl, rfl, rfl, by decide +kernel, rfl, by decide +kernel, by decide +kernel⟩
abbrev s8 : Stmt := top 13
abbrev N8 : List Str := ["_law_above", "_law_below", "_law_one", "_law_other"]
def b__law_fraction_1 : Ss := (.cons (.par 2 3 (.var 3) (.bin .mod (.var 2) (.var 3)))
  .nil)
/-- _law_fraction -/
def b__law_fraction : Ss := (.cons (.par 2 3 (.var 0) (.var 1))
  (.cons (.whl (.cmp .gt (.var 3) (.lit (.int 0))) b__law_fraction_1)
  (.cons (.ret (.tup (.cons (.bin .div (.var 0) (.var 2)) (.cons (.bin .div (.var 1) (.var 2)) .nil))))
  .nil)))
def fn__law_fraction : Fn := ⟨2, 4, b__law_fraction⟩
abbrev fn8 := fn__law_fraction
theorem sc8 : FnScope N8 ["_law_above", "_law_below"] (defScope s8) := ⟨rfl, rfl, rfl, by decide +kernel, rfl, by decide +kernel, by decide +kernel⟩
abbrev s9 : Stmt := top 14
abbrev N9 : List Str := ["_law_stream_here", "_law_many", "_law_left", "_law_found"]
def b__law_turned_numbers_1 : Ss := (.cons (.expr (.mut .append 3 [] (.cons (.mut .popAt 2 [] (.cons (.call ix__law_take (.cons (.var 0) (.cons (.prim .len (.cons (.var 2) .nil)) .nil))) .nil)) .nil)))
  .nil)
/-- _law_turned_numbers -/
def b__law_turned_numbers : Ss := (.cons (.asg (.nm 2) (.lrg (.var 1)))
  (.cons (.asg (.nm 3) (.lst .nil))
  (.cons (.whl (.cmp .ne (.var 2) (.lst .nil)) b__law_turned_numbers_1)
  (.cons (.retv 3)
  .nil))))
def fn__law_turned_numbers : Fn := ⟨2, 4, b__law_turned_numbers⟩
abbrev fn9 := fn__law_turned_numbers
theorem sc9 : FnScope N9 ["_law_stream_here", "_law_many"] (defScope s9) := ⟨rfl, rfl, rfl, by decide +kernel, rfl, by decide +kernel, by decide +kernel⟩
abbrev s10 : Stmt := top 15
abbrev N10 : List Str := ["_law_stream_here", "_law_kind"]
/-- _law_drawn -/
def b__law_drawn : Ss := (.cons (.asg (.nm 1) (.call ix__law_take (.cons (.var 0) (.cons (.lit (.int 4)) .nil))))
  (.cons (.ife (.cmp .eq (.var 1) (.lit (.int 0))) (.cons (.ret (.tup (.cons (.call ix__law_take (.cons (.var 0) (.cons (.lit (.int 9)) .nil))) (.cons (.lit (.int 1)) .nil))))
  .nil) .nil)
  (.cons (.ife (.cmp .eq (.var 1) (.lit (.int 1))) (.cons (.ret (.call ix__law_fraction (.cons (.call ix__law_take (.cons (.var 0) (.cons (.lit (.int 40)) .nil))) (.cons (.lit (.int 12)) .nil))))
  .nil) .nil)
  (.cons (.ife (.cmp .eq (.var 1) (.lit (.int 2))) (.cons (.ret (.call ix__law_fraction (.cons (.bin .add (.lit (.int 1)) (.call ix__law_take (.cons (.var 0) (.cons (.lit (.int 1000)) .nil)))) (.cons (.bin .add (.lit (.int 1)) (.call ix__law_take (.cons (.var 0) (.cons (.lit (.int 1000)) .nil)))) .nil))))
  .nil) .nil)
  (.cons (.ret (.tup (.cons (.lit (.int 0)) (.cons (.lit (.int 1)) .nil))))
  .nil)))))
def fn__law_drawn : Fn := ⟨1, 2, b__law_drawn⟩
abbrev fn10 := fn__law_drawn
theorem sc10 : FnScope N10 ["_law_stream_here"] (defScope s10) := ⟨rfl, rfl, rfl, by decide +kernel, rfl, by decide +kernel, by decide +kernel⟩
abbrev s11 : Stmt := top 16
abbrev N11 : List Str := ["_law_row", "_law_order", "_law_found", "_law_k"]
def b__law_summed_1 : Ss := (.cons (.asg (.nm 2) (.call ix_plus (.cons (.var 2) (.cons (.ix (.var 0) (.var 3)) .nil))))
  .nil)
/-- _law_summed -/
def b__law_summed : Ss := (.cons (.asg (.nm 2) (.tup (.cons (.lit (.int 0)) (.cons (.lit (.int 1)) .nil))))
  (.cons (.fo (.nm 3) (.ex (.var 1)) b__law_summed_1)
  (.cons (.retv 2)
  .nil)))
def fn__law_summed : Fn := ⟨2, 4, b__law_summed⟩
abbrev fn11 := fn__law_summed
theorem sc11 : FnScope N11 ["_law_row", "_law_order"] (defScope s11) := ⟨rfl, rfl, rfl, by decide +kernel, rfl, by decide +kernel, by decide +kernel⟩
abbrev s12 : Stmt := top 17
abbrev N12 : List Str := ["_law_script", "_law_stream_here", "_law_row", "_law_below", "_law_due", "_law_found", "_law_k", "_law_often", "_law_above", "_law_own", "_law_here", "_law_there"]
def b_law_1 : Ss := (.cons (.asg (.nm 3) (.bin .mul (.var 3) (.var 9)))
  .nil)
def b_law_2 : Ss := (.cons (.asg (.nm 5) (.call ix_less (.cons (.var 5) (.cons (.ix (.var 2) (.var 6)) .nil))))
  .nil)
def b_law_3 : Ss := (.cons (.ife (.cmp .ne (.bin .add (.prim .int (.cons (.call ix_is_less (.cons (.var 10) (.cons (.var 11) .nil))) .nil)) (.prim .int (.cons (.call ix_is_less (.cons (.var 11) (.cons (.var 10) .nil))) .nil))) (.prim .int (.cons (.cmp .ne (.var 10) (.var 11)) .nil))) (.cons (.ret (.lit (.bl false)))
  .nil) .nil)
  .nil)
/-- law -/
def b_law : Ss := (.cons (.asg (.nm 1) (.call ix__law_stream (.cons (.var 0) (.cons (.lit (.int 0)) .nil))))
  (.cons (.asg (.nm 2) (.comp [6] (.call ix__law_drawn (.cons (.var 1) .nil)) (.nm 6) (.r1 (.bin .add (.lit (.int 1)) (.call ix__law_take (.cons (.var 1) (.cons (.lit (.int 18)) .nil))))) .no))
  (.cons (.asg (.nm 3) (.lit (.int 1)))
  (.cons (.fo (.tp [(.nm 8), (.nm 9)]) (.ex (.var 2)) b_law_1)
  (.cons (.asg (.nm 4) (.call ix__law_fraction (.cons (.prim .sum (.cons (.comp [8, 9] (.bin .mul (.var 8) (.bin .div (.var 3) (.var 9))) (.tp [(.nm 8), (.nm 9)]) (.ex (.var 2)) .no) .nil)) (.cons (.var 3) .nil))))
  (.cons (.asg (.nm 1) (.call ix__law_stream (.cons (.var 0) (.cons (.lit (.int 1)) .nil))))
  (.cons (.asg (.nm 5) (.call ix__law_summed (.cons (.var 2) (.cons (.lrg (.prim .len (.cons (.var 2) .nil))) .nil))))
  (.cons (.ife (.or (.cmp .ne (.var 5) (.var 4)) (.cmp .ne (.call ix__law_summed (.cons (.var 2) (.cons (.call ix__law_turned_numbers (.cons (.var 1) (.cons (.prim .len (.cons (.var 2) .nil)) .nil))) .nil))) (.var 4))) (.cons (.ret (.lit (.bl false)))
  .nil) .nil)
  (.cons (.fo (.nm 6) (.ex (.call ix__law_turned_numbers (.cons (.var 1) (.cons (.prim .len (.cons (.var 2) .nil)) .nil)))) b_law_2)
  (.cons (.ife (.cmp .ne (.var 5) (.tup (.cons (.lit (.int 0)) (.cons (.lit (.int 1)) .nil)))) (.cons (.ret (.lit (.bl false)))
  .nil) .nil)
  (.cons (.asg (.nm 7) (.call ix__law_take (.cons (.var 1) (.cons (.lit (.int 20)) .nil))))
  (.cons (.ife (.cmp .ne (.call ix_times (.cons (.ix (.var 2) (.lit (.int 0))) (.cons (.var 7) .nil))) (.call ix__law_summed (.cons (.bin .mul (.lst (.cons (.ix (.var 2) (.lit (.int 0))) .nil)) (.var 7)) (.cons (.lrg (.var 7)) .nil)))) (.cons (.ret (.lit (.bl false)))
  .nil) .nil)
  (.cons (.fo (.tp [(.nm 10), (.nm 11)]) (.zip (.var 2) (.bin .add (.sl (.var 2) (.so (.lit (.int 1))) .no) (.sl (.var 2) .no (.so (.lit (.int 1)))))) b_law_3)
  (.cons (.ret (.lit (.bl true)))
  .nil))))))))))))))
def fn_law : Fn := ⟨1, 12, b_law⟩
abbrev fn12 := fn_law
theorem sc12 : FnScope N12 ["_law_script"] (defScope s12) := ⟨rfl, rfl, rfl, by decide +kernel, rfl, by decide +kernel, by decide +kernel⟩
def PP : List Fn := [fn0, fn1, fn2, fn3, fn4, fn5, fn6, fn7, fn8, fn9, fn10, fn11, fn12]
structure LL (w : World) (K : PySem.W.Frag) (mg : Str → Option Value) (base : Heap) (n : Nat) : Prop where
  c0 : Cl PySem.Challenge.pw_cartways_k03_whole_lengths w K mg base (n + 1) "greatest_common" 2 (run PP FUEL n 0)
  c1 : Cl PySem.Challenge.pw_cartways_k03_whole_lengths w K mg base (n + 1) "length" 2 (run PP FUEL n 1)
  c2 : Cl PySem.Challenge.pw_cartways_k03_whole_lengths w K mg base (n + 1) "plus" 2 (run PP FUEL n 2)
  c3 : Cl PySem.Challenge.pw_cartways_k03_whole_lengths w K mg base (n + 1) "less" 2 (run PP FUEL n 3)
  c4 : Cl PySem.Challenge.pw_cartways_k03_whole_lengths w K mg base (n + 1) "times" 2 (run PP FUEL n 4)
  c5 : Cl PySem.Challenge.pw_cartways_k03_whole_lengths w K mg base (n + 1) "is_less" 2 (run PP FUEL n 5)
  c6 : Cl PySem.Challenge.pw_cartways_k03_whole_lengths w K mg base (n + 1) "_law_stream" 2 (run PP FUEL n 6)
  c7 : Cl PySem.Challenge.pw_cartways_k03_whole_lengths w K mg base (n + 1) "_law_take" 2 (run PP FUEL n 7)
  c8 : Cl PySem.Challenge.pw_cartways_k03_whole_lengths w K mg base (n + 1) "_law_fraction" 2 (run PP FUEL n 8)
  c9 : Cl PySem.Challenge.pw_cartways_k03_whole_lengths w K mg base (n + 1) "_law_turned_numbers" 2 (run PP FUEL n 9)
  c10 : Cl PySem.Challenge.pw_cartways_k03_whole_lengths w K mg base (n + 1) "_law_drawn" 1 (run PP FUEL n 10)
  c11 : Cl PySem.Challenge.pw_cartways_k03_whole_lengths w K mg base (n + 1) "_law_summed" 2 (run PP FUEL n 11)
  c12 : Cl PySem.Challenge.pw_cartways_k03_whole_lengths w K mg base (n + 1) "law" 1 (run PP FUEL n 12)
structure NN (mg : Str → Option Value) : Prop where
  z_abs : mg "abs" = none
  z_bool : mg "bool" = none
  z_int : mg "int" = none
  z_isinstance : mg "isinstance" = none
  z_len : mg "len" = none
  z_list : mg "list" = none
  z_range : mg "range" = none
  z_sum : mg "sum" = none
  z_zip : mg "zip" = none
variable {w : World} {K : PySem.W.Frag} {mg : Str → Option Value} {base : Heap}
theorem body0 {n : Nat} {f : Addr} {cdv : Value} {A : Around} {outer : List Env} {s : Shared} {H : Hp} {E : XK} (L : LL w K mg base n) (Z : NN mg) (hr : Room (n + 1) (cxOf (L2.CX PySem.Challenge.pw_cartways_k03_whole_lengths w) PySem.Challenge.pw_cartways_k03_whole_lengths w K mg base N0 "greatest_common" (defScope s0) f cdv A outer s H E).A) (C : Cox (cxOf (L2.CX PySem.Challenge.pw_cartways_k03_whole_lengths w) PySem.Challenge.pw_cartways_k03_whole_lengths w K mg base N0 "greatest_common" (defScope s0) f cdv A outer s H E) (WO E)) :
    JSs (cxOf (L2.CX PySem.Challenge.pw_cartways_k03_whole_lengths w) PySem.Challenge.pw_cartways_k03_whole_lengths w K mg base N0 "greatest_common" (defScope s0) f cdv A outer s H E) (WO E) (run PP FUEL n) FUEL (defBody s0) b_greatest_common :=
  (ss_cons (s_whl C (t_c c_gt (o_var 1) (o_val e_int (by rfl))) (ss_cons (s_par (i := 0) (j := 1) C (by rfl) (by rfl) (by decide) (by rfl) (by rfl) (e_var 1) (e_mod (o_var 0) (o_var 1)) (by rfl) (by rfl) (by rfl))
  ss_nil))
  (ss_cons (s_ret (e_var 0))
  ss_nil))
theorem body1 {n : Nat} {f : Addr} {cdv : Value} {A : Around} {outer : List Env} {s : Shared} {H : Hp} {E : XK} (L : LL w K mg base n) (Z : NN mg) (hr : Room (n + 1) (cxOf (L2.CX PySem.Challenge.pw_cartways_k03_whole_lengths w) PySem.Challenge.pw_cartways_k03_whole_lengths w K mg base N1 "length" (defScope s1) f cdv A outer s H E).A) (C : Cox (cxOf (L2.CX PySem.Challenge.pw_cartways_k03_whole_lengths w) PySem.Challenge.pw_cartways_k03_whole_lengths w K mg base N1 "length" (defScope s1) f cdv A outer s H E) (WO E)) :
    JSs (cxOf (L2.CX PySem.Challenge.pw_cartways_k03_whole_lengths w) PySem.Challenge.pw_cartways_k03_whole_lengths w K mg base N1 "length" (defScope s1) f cdv A outer s H E) (WO E) (run PP FUEL n) FUEL (defBody s1) b_length :=
  (ss_cons (s_fo C (i_ex (e_tup (a_cons (e_var 0) (a_cons (e_var 1) a_nil (by rfl)) (by rfl)))) (g_nm C (i := 2) (by rfl) (by first | exact .inl rfl | exact .inr rfl) (by first | exact .inr rfl | exact .inl rfl)) (ss_cons (s_if (t_w (w_or (t_not (t_val (e_isi (t := .int) (by rfl) Z.z_isinstance (by rfl) Z.z_int (o_var 2) (by rfl)) (by intro _; rfl))) (w_or1 (t_val (e_isi (t := .bool) (by rfl) Z.z_isinstance (by rfl) Z.z_bool (o_var 2) (by rfl)) (by intro _; rfl))))) (ss_cons s_nev
  ss_nil) ss_nil)
  ss_nil) (by intro _; rfl))
  (ss_cons (s_if (t_w (w_or (t_c c_lt (o_var 0) (o_val e_int (by rfl))) (w_or1 (t_c c_lt (o_var 1) (o_val e_int (by rfl)))))) (ss_cons s_nev
  ss_nil) ss_nil)
  (ss_cons (s_asg (e_call C (L.c0.cal hr) (by rfl) (p_cons (o_var 0) (p_cons (o_var 1) p_nil (by rfl)) (by rfl)) (by decide) (by rfl) (by rfl) (by rfl)) (g_nm C (i := 3) (by rfl) (by first | exact .inl rfl | exact .inr rfl) (by first | exact .inr rfl | exact .inl rfl)) (by rfl) (by rfl) (by rfl))
  (ss_cons (s_ret (e_tup (a_cons (e_div (o_var 0) (o_var 3)) (a_cons (e_div (o_var 1) (o_var 3)) a_nil (by rfl)) (by rfl))))
  ss_nil))))
theorem body2 {n : Nat} {f : Addr} {cdv : Value} {A : Around} {outer : List Env} {s : Shared} {H : Hp} {E : XK} (L : LL w K mg base n) (Z : NN mg) (hr : Room (n + 1) (cxOf (L2.CX PySem.Challenge.pw_cartways_k03_whole_lengths w) PySem.Challenge.pw_cartways_k03_whole_lengths w K mg base N2 "plus" (defScope s2) f cdv A outer s H E).A) (C : Cox (cxOf (L2.CX PySem.Challenge.pw_cartways_k03_whole_lengths w) PySem.Challenge.pw_cartways_k03_whole_lengths w K mg base N2 "plus" (defScope s2) f cdv A outer s H E) (WO E)) :
    JSs (cxOf (L2.CX PySem.Challenge.pw_cartways_k03_whole_lengths w) PySem.Challenge.pw_cartways_k03_whole_lengths w K mg base N2 "plus" (defScope s2) f cdv A outer s H E) (WO E) (run PP FUEL n) FUEL (defBody s2) b_plus :=
  (ss_cons (s_ret (e_call C (L.c1.cal hr) (by rfl) (p_cons (o_val (e_add (o_val (e_mul (o_val (e_ix C (o_var 0) e_int (by rfl)) (by rfl)) (o_val (e_ix C (o_var 1) e_int (by rfl)) (by rfl))) (by rfl)) (o_val (e_mul (o_val (e_ix C (o_var 1) e_int (by rfl)) (by rfl)) (o_val (e_ix C (o_var 0) e_int (by rfl)) (by rfl))) (by rfl))) (by rfl)) (p_cons (o_val (e_mul (o_val (e_ix C (o_var 0) e_int (by rfl)) (by rfl)) (o_val (e_ix C (o_var 1) e_int (by rfl)) (by rfl))) (by rfl)) p_nil (by rfl)) (by rfl)) (by decide) (by rfl) (by rfl) (by rfl)))
  ss_nil)
theorem body3 {n : Nat} {f : Addr} {cdv : Value} {A : Around} {outer : List Env} {s : Shared} {H : Hp} {E : XK} (L : LL w K mg base n) (Z : NN mg) (hr : Room (n + 1) (cxOf (L2.CX PySem.Challenge.pw_cartways_k03_whole_lengths w) PySem.Challenge.pw_cartways_k03_whole_lengths w K mg base N3 "less" (defScope s3) f cdv A outer s H E).A) (C : Cox (cxOf (L2.CX PySem.Challenge.pw_cartways_k03_whole_lengths w) PySem.Challenge.pw_cartways_k03_whole_lengths w K mg base N3 "less" (defScope s3) f cdv A outer s H E) (WO E)) :
    JSs (cxOf (L2.CX PySem.Challenge.pw_cartways_k03_whole_lengths w) PySem.Challenge.pw_cartways_k03_whole_lengths w K mg base N3 "less" (defScope s3) f cdv A outer s H E) (WO E) (run PP FUEL n) FUEL (defBody s3) b_less :=
  (ss_cons (s_ret (e_call C (L.c1.cal hr) (by rfl) (p_cons (o_val (e_sub (o_val (e_mul (o_val (e_ix C (o_var 0) e_int (by rfl)) (by rfl)) (o_val (e_ix C (o_var 1) e_int (by rfl)) (by rfl))) (by rfl)) (o_val (e_mul (o_val (e_ix C (o_var 1) e_int (by rfl)) (by rfl)) (o_val (e_ix C (o_var 0) e_int (by rfl)) (by rfl))) (by rfl))) (by rfl)) (p_cons (o_val (e_mul (o_val (e_ix C (o_var 0) e_int (by rfl)) (by rfl)) (o_val (e_ix C (o_var 1) e_int (by rfl)) (by rfl))) (by rfl)) p_nil (by rfl)) (by rfl)) (by decide) (by rfl) (by rfl) (by rfl)))
  ss_nil)
theorem body4 {n : Nat} {f : Addr} {cdv : Value} {A : Around} {outer : List Env} {s : Shared} {H : Hp} {E : XK} (L : LL w K mg base n) (Z : NN mg) (hr : Room (n + 1) (cxOf (L2.CX PySem.Challenge.pw_cartways_k03_whole_lengths w) PySem.Challenge.pw_cartways_k03_whole_lengths w K mg base N4 "times" (defScope s4) f cdv A outer s H E).A) (C : Cox (cxOf (L2.CX PySem.Challenge.pw_cartways_k03_whole_lengths w) PySem.Challenge.pw_cartways_k03_whole_lengths w K mg base N4 "times" (defScope s4) f cdv A outer s H E) (WO E)) :
    JSs (cxOf (L2.CX PySem.Challenge.pw_cartways_k03_whole_lengths w) PySem.Challenge.pw_cartways_k03_whole_lengths w K mg base N4 "times" (defScope s4) f cdv A outer s H E) (WO E) (run PP FUEL n) FUEL (defBody s4) b_times :=
  (ss_cons (s_ret (e_call C (L.c1.cal hr) (by rfl) (p_cons (o_val (e_mul (o_val (e_ix C (o_var 0) e_int (by rfl)) (by rfl)) (o_var 1)) (by rfl)) (p_cons (o_val (e_ix C (o_var 0) e_int (by rfl)) (by rfl)) p_nil (by rfl)) (by rfl)) (by decide) (by rfl) (by rfl) (by rfl)))
  ss_nil)
theorem body5 {n : Nat} {f : Addr} {cdv : Value} {A : Around} {outer : List Env} {s : Shared} {H : Hp} {E : XK} (L : LL w K mg base n) (Z : NN mg) (hr : Room (n + 1) (cxOf (L2.CX PySem.Challenge.pw_cartways_k03_whole_lengths w) PySem.Challenge.pw_cartways_k03_whole_lengths w K mg base N5 "is_less" (defScope s5) f cdv A outer s H E).A) (C : Cox (cxOf (L2.CX PySem.Challenge.pw_cartways_k03_whole_lengths w) PySem.Challenge.pw_cartways_k03_whole_lengths w K mg base N5 "is_less" (defScope s5) f cdv A outer s H E) (WO E)) :
    JSs (cxOf (L2.CX PySem.Challenge.pw_cartways_k03_whole_lengths w) PySem.Challenge.pw_cartways_k03_whole_lengths w K mg base N5 "is_less" (defScope s5) f cdv A outer s H E) (WO E) (run PP FUEL n) FUEL (defBody s5) b_is_less :=
  (ss_cons (s_ret (e_c c_lt (o_val (e_mul (o_val (e_ix C (o_var 0) e_int (by rfl)) (by rfl)) (o_val (e_ix C (o_var 1) e_int (by rfl)) (by rfl))) (by rfl)) (o_val (e_mul (o_val (e_ix C (o_var 1) e_int (by rfl)) (by rfl)) (o_val (e_ix C (o_var 0) e_int (by rfl)) (by rfl))) (by rfl))))
  ss_nil)
theorem body6 {n : Nat} {f : Addr} {cdv : Value} {A : Around} {outer : List Env} {s : Shared} {H : Hp} {E : XK} (L : LL w K mg base n) (Z : NN mg) (hr : Room (n + 1) (cxOf (L2.CX PySem.Challenge.pw_cartways_k03_whole_lengths w) PySem.Challenge.pw_cartways_k03_whole_lengths w K mg base N6 "_law_stream" (defScope s6) f cdv A outer s H E).A) (C : Cox (cxOf (L2.CX PySem.Challenge.pw_cartways_k03_whole_lengths w) PySem.Challenge.pw_cartways_k03_whole_lengths w K mg base N6 "_law_stream" (defScope s6) f cdv A outer s H E) (WO E)) :
    JSs (cxOf (L2.CX PySem.Challenge.pw_cartways_k03_whole_lengths w) PySem.Challenge.pw_cartways_k03_whole_lengths w K mg base N6 "_law_stream" (defScope s6) f cdv A outer s H E) (WO E) (run PP FUEL n) FUEL (defBody s6) b__law_stream :=
  (ss_cons (s_if (t_c c_lt (o_var 1) (o_val (e_f f_len Z.z_len (by rfl) (p_cons (o_var 0) p_nil (by rfl)) (by rfl) (by rfl)) (by rfl))) (ss_cons (s_asg (e_f f_abs Z.z_abs (by rfl) (p_cons (o_val (e_ix C (o_var 0) (e_var 1) (by rfl)) (by rfl)) p_nil (by rfl)) (by rfl) (by rfl)) (g_nm C (i := 2) (by rfl) (by first | exact .inl rfl | exact .inr rfl) (by first | exact .inr rfl | exact .inl rfl)) (by rfl) (by rfl) (by rfl))
  (ss_cons (s_asg (e_add (o_val (e_add (o_val (e_mod (o_var 2) (o_val e_int (by rfl))) (by rfl)) (o_val (e_mul (o_var 1) (o_var 1)) (by rfl))) (by rfl)) (o_val e_int (by rfl))) (g_nm C (i := 3) (by rfl) (by first | exact .inl rfl | exact .inr rfl) (by first | exact .inr rfl | exact .inl rfl)) (by rfl) (by rfl) (by rfl))
  (ss_cons (s_if (t_c c_lt (o_var 2) (o_val (e_pow (o_val e_int (by rfl)) (o_val e_int (by rfl))) (by rfl))) (ss_cons (s_asg e_int (g_nm C (i := 2) (by rfl) (by first | exact .inl rfl | exact .inr rfl) (by first | exact .inr rfl | exact .inl rfl)) (by rfl) (by rfl) (by rfl))
  ss_nil) ss_nil)
  (ss_cons (s_ret (e_lst (a_cons (e_var 2) (a_cons (e_var 3) a_nil (by rfl)) (by rfl))))
  ss_nil)))) ss_nil)
  (ss_cons (s_ret (e_lst (a_cons e_int (a_cons (e_add (o_val (e_mul (o_var 1) (o_var 1)) (by rfl)) (o_val e_int (by rfl))) a_nil (by rfl)) (by rfl))))
  ss_nil))
theorem body7 {n : Nat} {f : Addr} {cdv : Value} {A : Around} {outer : List Env} {s : Shared} {H : Hp} {E : XK} (L : LL w K mg base n) (Z : NN mg) (hr : Room (n + 1) (cxOf (L2.CX PySem.Challenge.pw_cartways_k03_whole_lengths w) PySem.Challenge.pw_cartways_k03_whole_lengths w K mg base N7 "_law_take" (defScope s7) f cdv A outer s H E).A) (C : Cox (cxOf (L2.CX PySem.Challenge.pw_cartways_k03_whole_lengths w) PySem.Challenge.pw_cartways_k03_whole_lengths w K mg base N7 "_law_take" (defScope s7) f cdv A outer s H E) (WO E)) :
    JSs (cxOf (L2.CX PySem.Challenge.pw_cartways_k03_whole_lengths w) PySem.Challenge.pw_cartways_k03_whole_lengths w K mg base N7 "_law_take" (defScope s7) f cdv A outer s H E) (WO E) (run PP FUEL n) FUEL (defBody s7) b__law_take :=
  (ss_cons (s_if (t_c (c_eq C) (o_val (e_ix C (o_var 0) e_int (by rfl)) (by rfl)) (o_val e_int (by rfl))) (ss_cons (s_seti (pv 0) e_int (e_mod (o_val (e_add (o_val (e_mul (o_val (e_ix C (o_var 0) e_int (by rfl)) (by rfl)) (o_val e_int (by rfl))) (by rfl)) (o_val e_int (by rfl))) (by rfl)) (o_val e_int (by rfl))) (by rfl) (by rfl) (by rfl) (by intro _; rfl))
  (ss_cons (s_ret (e_mod (o_val (e_mod (o_val (e_mul (o_val (e_ix C (o_var 0) e_int (by rfl)) (by rfl)) (o_val (e_ix C (o_var 0) e_int (by rfl)) (by rfl))) (by rfl)) (o_val e_int (by rfl))) (by rfl)) (o_var 1)))
  ss_nil)) ss_nil)
  (ss_cons (s_asg (e_mod (o_val (e_ix C (o_var 0) e_int (by rfl)) (by rfl)) (o_var 1)) (g_nm C (i := 2) (by rfl) (by first | exact .inl rfl | exact .inr rfl) (by first | exact .inr rfl | exact .inl rfl)) (by rfl) (by rfl) (by rfl))
  (ss_cons (s_seti (pv 0) e_int (e_div (o_val (e_ix C (o_var 0) e_int (by rfl)) (by rfl)) (o_var 1)) (by rfl) (by rfl) (by rfl) (by intro _; rfl))
  (ss_cons (s_retv 2 (pv 2))
  ss_nil))))
theorem body8 {n : Nat} {f : Addr} {cdv : Value} {A : Around} {outer : List Env} {s : Shared} {H : Hp} {E : XK} (L : LL w K mg base n) (Z : NN mg) (hr : Room (n + 1) (cxOf (L2.CX PySem.Challenge.pw_cartways_k03_whole_lengths w) PySem.Challenge.pw_cartways_k03_whole_lengths w K mg base N8 "_law_fraction" (defScope s8) f cdv A outer s H E).A) (C : Cox (cxOf (L2.CX PySem.Challenge.pw_cartways_k03_whole_lengths w) PySem.Challenge.pw_cartways_k03_whole_lengths w K mg base N8 "_law_fraction" (defScope s8) f cdv A outer s H E) (WO E)) :
    JSs (cxOf (L2.CX PySem.Challenge.pw_cartways_k03_whole_lengths w) PySem.Challenge.pw_cartways_k03_whole_lengths w K mg base N8 "_law_fraction" (defScope s8) f cdv A outer s H E) (WO E) (run PP FUEL n) FUEL (defBody s8) b__law_fraction :=
  (ss_cons (s_par (i := 2) (j := 3) C (by rfl) (by rfl) (by decide) (by rfl) (by rfl) (e_var 0) (e_var 1) (by rfl) (by rfl) (by rfl))
  (ss_cons (s_whl C (t_c c_gt (o_var 3) (o_val e_int (by rfl))) (ss_cons (s_par (i := 2) (j := 3) C (by rfl) (by rfl) (by decide) (by rfl) (by rfl) (e_var 3) (e_mod (o_var 2) (o_var 3)) (by rfl) (by rfl) (by rfl))
  ss_nil))
  (ss_cons (s_ret (e_tup (a_cons (e_div (o_var 0) (o_var 2)) (a_cons (e_div (o_var 1) (o_var 2)) a_nil (by rfl)) (by rfl))))
  ss_nil)))
theorem body9 {n : Nat} {f : Addr} {cdv : Value} {A : Around} {outer : List Env} {s : Shared} {H : Hp} {E : XK} (L : LL w K mg base n) (Z : NN mg) (hr : Room (n + 1) (cxOf (L2.CX PySem.Challenge.pw_cartways_k03_whole_lengths w) PySem.Challenge.pw_cartways_k03_whole_lengths w K mg base N9 "_law_turned_numbers" (defScope s9) f cdv A outer s H E).A) (C : Cox (cxOf (L2.CX PySem.Challenge.pw_cartways_k03_whole_lengths w) PySem.Challenge.pw_cartways_k03_whole_lengths w K mg base N9 "_law_turned_numbers" (defScope s9) f cdv A outer s H E) (WO E)) :
    JSs (cxOf (L2.CX PySem.Challenge.pw_cartways_k03_whole_lengths w) PySem.Challenge.pw_cartways_k03_whole_lengths w K mg base N9 "_law_turned_numbers" (defScope s9) f cdv A outer s H E) (WO E) (run PP FUEL n) FUEL (defBody s9) b__law_turned_numbers :=
  (ss_cons (s_asg (e_lrg C (by rfl) Z.z_list (by rfl) Z.z_range (e_var 1) (by rfl) (by rfl)) (g_nm C (i := 2) (by rfl) (by first | exact .inl rfl | exact .inr rfl) (by first | exact .inr rfl | exact .inl rfl)) (by rfl) (by rfl) (by rfl))
  (ss_cons (s_asg (e_lst a_nil) (g_nm C (i := 3) (by rfl) (by first | exact .inl rfl | exact .inr rfl) (by first | exact .inr rfl | exact .inl rfl)) (by rfl) (by rfl) (by rfl))
  (ss_cons (s_whl C (t_c (c_ne C) (o_var 2) (o_val (e_lst a_nil) (by rfl))) (ss_cons (s_expr (e_mut m_append (pv 3) (a_cons (e_mut m_popAt (pv 2) (a_cons (e_call C (L.c7.cal hr) (by rfl) (p_cons (o_var 0) (p_cons (o_val (e_f f_len Z.z_len (by rfl) (p_cons (o_var 2) p_nil (by rfl)) (by rfl) (by rfl)) (by rfl)) p_nil (by rfl)) (by rfl)) (by decide) (by rfl) (by rfl) (by rfl)) a_nil (by rfl)) (by rfl) (by rfl) (by rfl) (by rfl) (by rfl)) a_nil (by rfl)) (by rfl) (by rfl) (by rfl) (by rfl) (by rfl)) (by rfl))
  ss_nil))
  (ss_cons (s_retv 3 (pv 3))
  ss_nil))))
theorem body10 {n : Nat} {f : Addr} {cdv : Value} {A : Around} {outer : List Env} {s : Shared} {H : Hp} {E : XK} (L : LL w K mg base n) (Z : NN mg) (hr : Room (n + 1) (cxOf (L2.CX PySem.Challenge.pw_cartways_k03_whole_lengths w) PySem.Challenge.pw_cartways_k03_whole_lengths w K mg base N10 "_law_drawn" (defScope s10) f cdv A outer s H E).A) (C : Cox (cxOf (L2.CX PySem.Challenge.pw_cartways_k03_whole_lengths w) PySem.Challenge.pw_cartways_k03_whole_lengths w K mg base N10 "_law_drawn" (defScope s10) f cdv A outer s H E) (WO E)) :
    JSs (cxOf (L2.CX PySem.Challenge.pw_cartways_k03_whole_lengths w) PySem.Challenge.pw_cartways_k03_whole_lengths w K mg base N10 "_law_drawn" (defScope s10) f cdv A outer s H E) (WO E) (run PP FUEL n) FUEL (defBody s10) b__law_drawn :=
  (ss_cons (s_asg (e_call C (L.c7.cal hr) (by rfl) (p_cons (o_var 0) (p_cons (o_val e_int (by rfl)) p_nil (by rfl)) (by rfl)) (by decide) (by rfl) (by rfl) (by rfl)) (g_nm C (i := 1) (by rfl) (by first | exact .inl rfl | exact .inr rfl) (by first | exact .inr rfl | exact .inl rfl)) (by rfl) (by rfl) (by rfl))
  (ss_cons (s_if (t_c (c_eq C) (o_var 1) (o_val e_int (by rfl))) (ss_cons (s_ret (e_tup (a_cons (e_call C (L.c7.cal hr) (by rfl) (p_cons (o_var 0) (p_cons (o_val e_int (by rfl)) p_nil (by rfl)) (by rfl)) (by decide) (by rfl) (by rfl) (by rfl)) (a_cons e_int a_nil (by rfl)) (by rfl))))
  ss_nil) ss_nil)
  (ss_cons (s_if (t_c (c_eq C) (o_var 1) (o_val e_int (by rfl))) (ss_cons (s_ret (e_call C (L.c8.cal hr) (by rfl) (p_cons (o_val (e_call C (L.c7.cal hr) (by rfl) (p_cons (o_var 0) (p_cons (o_val e_int (by rfl)) p_nil (by rfl)) (by rfl)) (by decide) (by rfl) (by rfl) (by rfl)) (by rfl)) (p_cons (o_val e_int (by rfl)) p_nil (by rfl)) (by rfl)) (by decide) (by rfl) (by rfl) (by rfl)))
  ss_nil) ss_nil)
  (ss_cons (s_if (t_c (c_eq C) (o_var 1) (o_val e_int (by rfl))) (ss_cons (s_ret (e_call C (L.c8.cal hr) (by rfl) (p_cons (o_val (e_add (o_val e_int (by rfl)) (o_val (e_call C (L.c7.cal hr) (by rfl) (p_cons (o_var 0) (p_cons (o_val e_int (by rfl)) p_nil (by rfl)) (by rfl)) (by decide) (by rfl) (by rfl) (by rfl)) (by rfl))) (by rfl)) (p_cons (o_val (e_add (o_val e_int (by rfl)) (o_val (e_call C (L.c7.cal hr) (by rfl) (p_cons (o_var 0) (p_cons (o_val e_int (by rfl)) p_nil (by rfl)) (by rfl)) (by decide) (by rfl) (by rfl) (by rfl)) (by rfl))) (by rfl)) p_nil (by rfl)) (by rfl)) (by decide) (by rfl) (by rfl) (by rfl)))
  ss_nil) ss_nil)
  (ss_cons (s_ret (e_tup (a_cons e_int (a_cons e_int a_nil (by rfl)) (by rfl))))
  ss_nil)))))
theorem body11 {n : Nat} {f : Addr} {cdv : Value} {A : Around} {outer : List Env} {s : Shared} {H : Hp} {E : XK} (L : LL w K mg base n) (Z : NN mg) (hr : Room (n + 1) (cxOf (L2.CX PySem.Challenge.pw_cartways_k03_whole_lengths w) PySem.Challenge.pw_cartways_k03_whole_lengths w K mg base N11 "_law_summed" (defScope s11) f cdv A outer s H E).A) (C : Cox (cxOf (L2.CX PySem.Challenge.pw_cartways_k03_whole_lengths w) PySem.Challenge.pw_cartways_k03_whole_lengths w K mg base N11 "_law_summed" (defScope s11) f cdv A outer s H E) (WO E)) :
    JSs (cxOf (L2.CX PySem.Challenge.pw_cartways_k03_whole_lengths w) PySem.Challenge.pw_cartways_k03_whole_lengths w K mg base N11 "_law_summed" (defScope s11) f cdv A outer s H E) (WO E) (run PP FUEL n) FUEL (defBody s11) b__law_summed :=
  (ss_cons (s_asg (e_tup (a_cons e_int (a_cons e_int a_nil (by rfl)) (by rfl))) (g_nm C (i := 2) (by rfl) (by first | exact .inl rfl | exact .inr rfl) (by first | exact .inr rfl | exact .inl rfl)) (by rfl) (by rfl) (by rfl))
  (ss_cons (s_fo C (i_ex (e_var 1)) (g_nm C (i := 3) (by rfl) (by first | exact .inl rfl | exact .inr rfl) (by first | exact .inr rfl | exact .inl rfl)) (ss_cons (s_asg (e_call C (L.c2.cal hr) (by rfl) (p_cons (o_var 2) (p_cons (o_val (e_ix C (o_var 0) (e_var 3) (by rfl)) (by rfl)) p_nil (by rfl)) (by rfl)) (by decide) (by rfl) (by rfl) (by rfl)) (g_nm C (i := 2) (by rfl) (by first | exact .inl rfl | exact .inr rfl) (by first | exact .inr rfl | exact .inl rfl)) (by rfl) (by rfl) (by rfl))
  ss_nil) (by intro _; rfl))
  (ss_cons (s_retv 2 (pv 2))
  ss_nil)))
theorem body12 {n : Nat} {f : Addr} {cdv : Value} {A : Around} {outer : List Env} {s : Shared} {H : Hp} {E : XK} (L : LL w K mg base n) (Z : NN mg) (hr : Room (n + 1) (cxOf (L2.CX PySem.Challenge.pw_cartways_k03_whole_lengths w) PySem.Challenge.pw_cartways_k03_whole_lengths w K mg base N12 "law" (defScope s12) f cdv A outer s H E).A) (C : Cox (cxOf (L2.CX PySem.Challenge.pw_cartways_k03_whole_lengths w) PySem.Challenge.pw_cartways_k03_whole_lengths w K mg base N12 "law" (defScope s12) f cdv A outer s H E) (WO E)) :
    JSs (cxOf (L2.CX PySem.Challenge.pw_cartways_k03_whole_lengths w) PySem.Challenge.pw_cartways_k03_whole_lengths w K mg base N12 "law" (defScope s12) f cdv A outer s H E) (WO E) (run PP FUEL n) FUEL (defBody s12) b_law :=
  (ss_cons (s_asg (e_call C (L.c6.cal hr) (by rfl) (p_cons (o_var 0) (p_cons (o_val e_int (by rfl)) p_nil (by rfl)) (by rfl)) (by decide) (by rfl) (by rfl) (by rfl)) (g_nm C (i := 1) (by rfl) (by first | exact .inl rfl | exact .inr rfl) (by first | exact .inr rfl | exact .inl rfl)) (by rfl) (by rfl) (by rfl))
  (ss_cons (s_asgC (own := [("_law_k", 6)]) C (i := 2) (by rfl) (by rfl) (by rfl) (i_r1 (by rfl) Z.z_range (e_add (o_val e_int (by rfl)) (o_val (e_call C (L.c7.cal hr) (by rfl) (p_cons (o_var 1) (p_cons (o_val e_int (by rfl)) p_nil (by rfl)) (by rfl)) (by decide) (by rfl) (by rfl) (by rfl)) (by rfl))) (by rfl)) (by change BlkOk N12 (defScope s12) _ _; exact ⟨rfl, by decide +kernel, by decide +kernel, by decide +kernel, by decide +kernel⟩) (by decide) (by decide) (fun _ _ _ _ _ C => (g_nm C (i := 6) (by rfl) (by first | exact .inl rfl | exact .inr rfl) (by first | exact .inr rfl | exact .inl rfl))) (fun _ _ _ _ _ C => b_no) (fun _ _ _ _ _ C => (e_call C (L.c10.cal hr) (by rfl) (p_cons (o_var 1) p_nil (by rfl)) (by decide) (by rfl) (by rfl) (by rfl))) (by intro _; rfl))
  (ss_cons (s_asg e_int (g_nm C (i := 3) (by rfl) (by first | exact .inl rfl | exact .inr rfl) (by first | exact .inr rfl | exact .inl rfl)) (by rfl) (by rfl) (by rfl))
  (ss_cons (s_fo C (i_ex (e_var 2)) (pG_tp C.calm (pGs_cons (g_nm C (i := 8) (by rfl) (by first | exact .inl rfl | exact .inr rfl) (by first | exact .inr rfl | exact .inl rfl)) (pGs_cons (g_nm C (i := 9) (by rfl) (by first | exact .inl rfl | exact .inr rfl) (by first | exact .inr rfl | exact .inl rfl)) pGs_nil (by rfl)) (by rfl)) (by rfl) (by rfl)) (ss_cons (s_asg (e_mul (o_var 3) (o_var 9)) (g_nm C (i := 3) (by rfl) (by first | exact .inl rfl | exact .inr rfl) (by first | exact .inr rfl | exact .inl rfl)) (by rfl) (by rfl) (by rfl))
  ss_nil) (by intro _; rfl))
  (ss_cons (s_asg (e_call C (L.c8.cal hr) (by rfl) (p_cons (o_val (e_f (f_sum C) Z.z_sum (by rfl) (p_cons (o_val (e_comp (own := [("_law_above", 8), ("_law_own", 9)]) C (i_ex (e_var 2)) (by change BlkOk N12 (defScope s12) _ _; exact ⟨rfl, by decide +kernel, by decide +kernel, by decide +kernel, by decide +kernel⟩) (by decide) (by decide) (fun _ _ _ _ _ C => (pG_tp C.calm (pGs_cons (g_nm C (i := 8) (by rfl) (by first | exact .inl rfl | exact .inr rfl) (by first | exact .inr rfl | exact .inl rfl)) (pGs_cons (g_nm C (i := 9) (by rfl) (by first | exact .inl rfl | exact .inr rfl) (by first | exact .inr rfl | exact .inl rfl)) pGs_nil (by rfl)) (by rfl)) (by rfl) (by rfl))) (fun _ _ _ _ _ C => b_no) (fun _ _ _ _ _ C => (e_mul (o_var 8) (o_val (e_div (o_var 3) (o_var 9)) (by rfl)))) (by intro _; rfl)) (by rfl)) p_nil (by rfl)) (by rfl) (by rfl)) (by rfl)) (p_cons (o_var 3) p_nil (by rfl)) (by rfl)) (by decide) (by rfl) (by rfl) (by rfl)) (g_nm C (i := 4) (by rfl) (by first | exact .inl rfl | exact .inr rfl) (by first | exact .inr rfl | exact .inl rfl)) (by rfl) (by rfl) (by rfl))
  (ss_cons (s_asg (e_call C (L.c6.cal hr) (by rfl) (p_cons (o_var 0) (p_cons (o_val e_int (by rfl)) p_nil (by rfl)) (by rfl)) (by decide) (by rfl) (by rfl) (by rfl)) (g_nm C (i := 1) (by rfl) (by first | exact .inl rfl | exact .inr rfl) (by first | exact .inr rfl | exact .inl rfl)) (by rfl) (by rfl) (by rfl))
  (ss_cons (s_asg (e_call C (L.c11.cal hr) (by rfl) (p_cons (o_var 2) (p_cons (o_val (e_lrg C (by rfl) Z.z_list (by rfl) Z.z_range (e_f f_len Z.z_len (by rfl) (p_cons (o_var 2) p_nil (by rfl)) (by rfl) (by rfl)) (by rfl) (by rfl)) (by rfl)) p_nil (by rfl)) (by rfl)) (by decide) (by rfl) (by rfl) (by rfl)) (g_nm C (i := 5) (by rfl) (by first | exact .inl rfl | exact .inr rfl) (by first | exact .inr rfl | exact .inl rfl)) (by rfl) (by rfl) (by rfl))
  (ss_cons (s_if (t_w (w_or (t_c (c_ne C) (o_var 5) (o_var 4)) (w_or1 (t_c (c_ne C) (o_val (e_call C (L.c11.cal hr) (by rfl) (p_cons (o_var 2) (p_cons (o_val (e_call C (L.c9.cal hr) (by rfl) (p_cons (o_var 1) (p_cons (o_val (e_f f_len Z.z_len (by rfl) (p_cons (o_var 2) p_nil (by rfl)) (by rfl) (by rfl)) (by rfl)) p_nil (by rfl)) (by rfl)) (by decide) (by rfl) (by rfl) (by rfl)) (by rfl)) p_nil (by rfl)) (by rfl)) (by decide) (by rfl) (by rfl) (by rfl)) (by rfl)) (o_var 4))))) (ss_cons (s_ret e_bl)
  ss_nil) ss_nil)
  (ss_cons (s_fo C (i_ex (e_call C (L.c9.cal hr) (by rfl) (p_cons (o_var 1) (p_cons (o_val (e_f f_len Z.z_len (by rfl) (p_cons (o_var 2) p_nil (by rfl)) (by rfl) (by rfl)) (by rfl)) p_nil (by rfl)) (by rfl)) (by decide) (by rfl) (by rfl) (by rfl))) (g_nm C (i := 6) (by rfl) (by first | exact .inl rfl | exact .inr rfl) (by first | exact .inr rfl | exact .inl rfl)) (ss_cons (s_asg (e_call C (L.c3.cal hr) (by rfl) (p_cons (o_var 5) (p_cons (o_val (e_ix C (o_var 2) (e_var 6) (by rfl)) (by rfl)) p_nil (by rfl)) (by rfl)) (by decide) (by rfl) (by rfl) (by rfl)) (g_nm C (i := 5) (by rfl) (by first | exact .inl rfl | exact .inr rfl) (by first | exact .inr rfl | exact .inl rfl)) (by rfl) (by rfl) (by rfl))
  ss_nil) (by intro _; rfl))
  (ss_cons (s_if (t_c (c_ne C) (o_var 5) (o_val (e_tup (a_cons e_int (a_cons e_int a_nil (by rfl)) (by rfl))) (by rfl))) (ss_cons (s_ret e_bl)
  ss_nil) ss_nil)
  (ss_cons (s_asg (e_call C (L.c7.cal hr) (by rfl) (p_cons (o_var 1) (p_cons (o_val e_int (by rfl)) p_nil (by rfl)) (by rfl)) (by decide) (by rfl) (by rfl) (by rfl)) (g_nm C (i := 7) (by rfl) (by first | exact .inl rfl | exact .inr rfl) (by first | exact .inr rfl | exact .inl rfl)) (by rfl) (by rfl) (by rfl))
  (ss_cons (s_if (t_c (c_ne C) (o_val (e_call C (L.c4.cal hr) (by rfl) (p_cons (o_val (e_ix C (o_var 2) e_int (by rfl)) (by rfl)) (p_cons (o_var 7) p_nil (by rfl)) (by rfl)) (by decide) (by rfl) (by rfl) (by rfl)) (by rfl)) (o_val (e_call C (L.c11.cal hr) (by rfl) (p_cons (o_val (e_mul (o_val (e_lst (a_cons (e_ix C (o_var 2) e_int (by rfl)) a_nil (by rfl))) (by rfl)) (o_var 7)) (by rfl)) (p_cons (o_val (e_lrg C (by rfl) Z.z_list (by rfl) Z.z_range (e_var 7) (by rfl) (by rfl)) (by rfl)) p_nil (by rfl)) (by rfl)) (by decide) (by rfl) (by rfl) (by rfl)) (by rfl))) (ss_cons (s_ret e_bl)
  ss_nil) ss_nil)
  (ss_cons (s_fo C (i_zip (by rfl) Z.z_zip (e_var 2) (e_add (o_val (e_sl (o_var 2) (n_so e_int) n_no) (by rfl)) (o_val (e_sl (o_var 2) n_no (n_so e_int)) (by rfl))) (by rfl) (by rfl)) (pG_tp C.calm (pGs_cons (g_nm C (i := 10) (by rfl) (by first | exact .inl rfl | exact .inr rfl) (by first | exact .inr rfl | exact .inl rfl)) (pGs_cons (g_nm C (i := 11) (by rfl) (by first | exact .inl rfl | exact .inr rfl) (by first | exact .inr rfl | exact .inl rfl)) pGs_nil (by rfl)) (by rfl)) (by rfl) (by rfl)) (ss_cons (s_if (t_c (c_ne C) (o_val (e_add (o_val (e_f f_int Z.z_int (by rfl) (p_cons (o_val (e_call C (L.c5.cal hr) (by rfl) (p_cons (o_var 10) (p_cons (o_var 11) p_nil (by rfl)) (by rfl)) (by decide) (by rfl) (by rfl) (by rfl)) (by rfl)) p_nil (by rfl)) (by rfl) (by rfl)) (by rfl)) (o_val (e_f f_int Z.z_int (by rfl) (p_cons (o_val (e_call C (L.c5.cal hr) (by rfl) (p_cons (o_var 11) (p_cons (o_var 10) p_nil (by rfl)) (by rfl)) (by decide) (by rfl) (by rfl) (by rfl)) (by rfl)) p_nil (by rfl)) (by rfl) (by rfl)) (by rfl))) (by rfl)) (o_val (e_f f_int Z.z_int (by rfl) (p_cons (o_val (e_c (c_ne C) (o_var 10) (o_var 11)) (by rfl)) p_nil (by rfl)) (by rfl) (by rfl)) (by rfl))) (ss_cons (s_ret e_bl)
  ss_nil) ss_nil)
  ss_nil) (by intro _; rfl))
  (ss_cons (s_ret e_bl)
  ss_nil))))))))))))))
theorem all_ok {f0 f1 f2 f3 f4 f5 f6 f7 f8 f9 f10 f11 f12 : Addr} {d0 d1 d2 d3 d4 d5 d6 d7 d8 d9 d10 d11 d12 : FuncData}
    (F0 : Fun K "greatest_common" "greatest_common" s0 f0 d0) (b0 : Binds K d0 ["first", "second"] []) (g0 : mg "greatest_common" = some (.ref f0))
    (F1 : Fun K "length" "length" s1 f1 d1) (b1 : Binds K d1 ["above", "below"] []) (g1 : mg "length" = some (.ref f1))
    (F2 : Fun K "plus" "plus" s2 f2 d2) (b2 : Binds K d2 ["first", "second"] []) (g2 : mg "plus" = some (.ref f2))
    (F3 : Fun K "less" "less" s3 f3 d3) (b3 : Binds K d3 ["first", "second"] []) (g3 : mg "less" = some (.ref f3))
    (F4 : Fun K "times" "times" s4 f4 d4) (b4 : Binds K d4 ["first", "often"] []) (g4 : mg "times" = some (.ref f4))
    (F5 : Fun K "is_less" "is_less" s5 f5 d5) (b5 : Binds K d5 ["first", "second"] []) (g5 : mg "is_less" = some (.ref f5))
    (F6 : Fun K "_law_stream" "_law_stream" s6 f6 d6) (b6 : Binds K d6 ["_law_script", "_law_k"] []) (g6 : mg "_law_stream" = some (.ref f6))
    (F7 : Fun K "_law_take" "_law_take" s7 f7 d7) (b7 : Binds K d7 ["_law_stream_here", "_law_most"] []) (g7 : mg "_law_take" = some (.ref f7))
    (F8 : Fun K "_law_fraction" "_law_fraction" s8 f8 d8) (b8 : Binds K d8 ["_law_above", "_law_below"] []) (g8 : mg "_law_fraction" = some (.ref f8))
    (F9 : Fun K "_law_turned_numbers" "_law_turned_numbers" s9 f9 d9) (b9 : Binds K d9 ["_law_stream_here", "_law_many"] []) (g9 : mg "_law_turned_numbers" = some (.ref f9))
    (F10 : Fun K "_law_drawn" "_law_drawn" s10 f10 d10) (b10 : Binds K d10 ["_law_stream_here"] []) (g10 : mg "_law_drawn" = some (.ref f10))
    (F11 : Fun K "_law_summed" "_law_summed" s11 f11 d11) (b11 : Binds K d11 ["_law_row", "_law_order"] []) (g11 : mg "_law_summed" = some (.ref f11))
    (F12 : Fun K "law" "law" s12 f12 d12) (b12 : Binds K d12 ["_law_script"] []) (g12 : mg "law" = some (.ref f12))
    (Z : NN mg) : ∀ n : Nat, LL w K mg base n
  | 0 => { c0 := ⟨f0, d0, _, fn_no, g0, F0.kp, b0⟩,  c1 := ⟨f1, d1, _, fn_no, g1, F1.kp, b1⟩,  c2 := ⟨f2, d2, _, fn_no, g2, F2.kp, b2⟩,  c3 := ⟨f3, d3, _, fn_no, g3, F3.kp, b3⟩,  c4 := ⟨f4, d4, _, fn_no, g4, F4.kp, b4⟩,  c5 := ⟨f5, d5, _, fn_no, g5, F5.kp, b5⟩,  c6 := ⟨f6, d6, _, fn_no, g6, F6.kp, b6⟩,  c7 := ⟨f7, d7, _, fn_no, g7, F7.kp, b7⟩,  c8 := ⟨f8, d8, _, fn_no, g8, F8.kp, b8⟩,  c9 := ⟨f9, d9, _, fn_no, g9, F9.kp, b9⟩,  c10 := ⟨f10, d10, _, fn_no, g10, F10.kp, b10⟩,  c11 := ⟨f11, d11, _, fn_no, g11, F11.kp, b11⟩,  c12 := ⟨f12, d12, _, fn_no, g12, F12.kp, b12⟩ }
  | n + 1 =>
    have L := all_ok F0 b0 g0 F1 b1 g1 F2 b2 g2 F3 b3 g3 F4 b4 g4 F5 b5 g5 F6 b6 g6 F7 b7 g7 F8 b8 g8 F9 b9 g9 F10 b10 g10 F11 b11 g11 F12 b12 g12 Z n
    { c0 := ⟨f0, d0, _, (by rw [run_succ (fn := fn0) rfl]; exact fn_ok (fn := fn0) (Φ := run PP FUEL n) (m := FUEL) F0 sc0 rfl rfl fun cdv A outer s H E hr C => body0 L Z hr C), g0, F0.kp, b0⟩,
      c1 := ⟨f1, d1, _, (by rw [run_succ (fn := fn1) rfl]; exact fn_ok (fn := fn1) (Φ := run PP FUEL n) (m := FUEL) F1 sc1 rfl rfl fun cdv A outer s H E hr C => body1 L Z hr C), g1, F1.kp, b1⟩,
      c2 := ⟨f2, d2, _, (by rw [run_succ (fn := fn2) rfl]; exact fn_ok (fn := fn2) (Φ := run PP FUEL n) (m := FUEL) F2 sc2 rfl rfl fun cdv A outer s H E hr C => body2 L Z hr C), g2, F2.kp, b2⟩,
      c3 := ⟨f3, d3, _, (by rw [run_succ (fn := fn3) rfl]; exact fn_ok (fn := fn3) (Φ := run PP FUEL n) (m := FUEL) F3 sc3 rfl rfl fun cdv A outer s H E hr C => body3 L Z hr C), g3, F3.kp, b3⟩,
      c4 := ⟨f4, d4, _, (by rw [run_succ (fn := fn4) rfl]; exact fn_ok (fn := fn4) (Φ := run PP FUEL n) (m := FUEL) F4 sc4 rfl rfl fun cdv A outer s H E hr C => body4 L Z hr C), g4, F4.kp, b4⟩,
      c5 := ⟨f5, d5, _, (by rw [run_succ (fn := fn5) rfl]; exact fn_ok (fn := fn5) (Φ := run PP FUEL n) (m := FUEL) F5 sc5 rfl rfl fun cdv A outer s H E hr C => body5 L Z hr C), g5, F5.kp, b5⟩,
      c6 := ⟨f6, d6, _, (by rw [run_succ (fn := fn6) rfl]; exact fn_ok (fn := fn6) (Φ := run PP FUEL n) (m := FUEL) F6 sc6 rfl rfl fun cdv A outer s H E hr C => body6 L Z hr C), g6, F6.kp, b6⟩,
      c7 := ⟨f7, d7, _, (by rw [run_succ (fn := fn7) rfl]; exact fn_ok (fn := fn7) (Φ := run PP FUEL n) (m := FUEL) F7 sc7 rfl rfl fun cdv A outer s H E hr C => body7 L Z hr C), g7, F7.kp, b7⟩,
      c8 := ⟨f8, d8, _, (by rw [run_succ (fn := fn8) rfl]; exact fn_ok (fn := fn8) (Φ := run PP FUEL n) (m := FUEL) F8 sc8 rfl rfl fun cdv A outer s H E hr C => body8 L Z hr C), g8, F8.kp, b8⟩,
      c9 := ⟨f9, d9, _, (by rw [run_succ (fn := fn9) rfl]; exact fn_ok (fn := fn9) (Φ := run PP FUEL n) (m := FUEL) F9 sc9 rfl rfl fun cdv A outer s H E hr C => body9 L Z hr C), g9, F9.kp, b9⟩,
      c10 := ⟨f10, d10, _, (by rw [run_succ (fn := fn10) rfl]; exact fn_ok (fn := fn10) (Φ := run PP FUEL n) (m := FUEL) F10 sc10 rfl rfl fun cdv A outer s H E hr C => body10 L Z hr C), g10, F10.kp, b10⟩,
      c11 := ⟨f11, d11, _, (by rw [run_succ (fn := fn11) rfl]; exact fn_ok (fn := fn11) (Φ := run PP FUEL n) (m := FUEL) F11 sc11 rfl rfl fun cdv A outer s H E hr C => body11 L Z hr C), g11, F11.kp, b11⟩,
      c12 := ⟨f12, d12, _, (by rw [run_succ (fn := fn12) rfl]; exact fn_ok (fn := fn12) (Φ := run PP FUEL n) (m := FUEL) F12 sc12 rfl rfl fun cdv A outer s H E hr C => body12 L Z hr C), g12, F12.kp, b12⟩ }
theorem all_mk {h : Heap} {fa f0 f1 f2 f3 f4 f5 f6 f7 f8 f9 f10 f11 f12 : Addr} (X : K.In h) (G : h.Ns mainGlobals mg) (hfa : mg "law" = some (.ref fa))
    {od0 an0 od1 an1 od2 an2 od3 an3 od4 an4 od5 an5 od6 an6 od7 an7 od8 an8 od9 an9 od10 an10 od11 an11 od12 an12 : Option Addr} {sl0 sl1 sl2 sl3 sl4 sl5 sl6 sl7 sl8 sl9 sl10 sl11 sl12 : Array (Option Value)} {oc0 kV0 dc0 pm0 cd0 ct0 oc1 kV1 dc1 pm1 cd1 ct1 oc2 kV2 dc2 pm2 cd2 ct2 oc3 kV3 dc3 pm3 cd3 ct3 oc4 kV4 dc4 pm4 cd4 ct4 oc5 kV5 dc5 pm5 cd5 ct5 oc6 kV6 dc6 pm6 cd6 ct6 oc7 kV7 dc7 pm7 cd7 ct7 oc8 kV8 dc8 pm8 cd8 ct8 oc9 kV9 dc9 pm9 cd9 ct9 oc10 kV10 dc10 pm10 cd10 ct10 oc11 kV11 dc11 pm11 cd11 ct11 oc12 kV12 dc12 pm12 cd12 ct12 : Value}
    (a0 : PySem.W.nsIn K mainGlobals "greatest_common" = some (some (.ref f0))) (l0 : K.lookup f0 = some ⟨oc0, od0, .func (PySem.W.fnOf "greatest_common" "greatest_common" (defArgs s0) (defBody s0) (defScope s0) .none kV0 dc0 pm0 an0 cd0 ct0), sl0⟩) (c0 : PySem.W.codeIn K cd0 "greatest_common" = true) (k0 : PySem.W.keepIn K (.ref f0) = true)
    (a1 : PySem.W.nsIn K mainGlobals "length" = some (some (.ref f1))) (l1 : K.lookup f1 = some ⟨oc1, od1, .func (PySem.W.fnOf "length" "length" (defArgs s1) (defBody s1) (defScope s1) .none kV1 dc1 pm1 an1 cd1 ct1), sl1⟩) (c1 : PySem.W.codeIn K cd1 "length" = true) (k1 : PySem.W.keepIn K (.ref f1) = true)
    (a2 : PySem.W.nsIn K mainGlobals "plus" = some (some (.ref f2))) (l2 : K.lookup f2 = some ⟨oc2, od2, .func (PySem.W.fnOf "plus" "plus" (defArgs s2) (defBody s2) (defScope s2) .none kV2 dc2 pm2 an2 cd2 ct2), sl2⟩) (c2 : PySem.W.codeIn K cd2 "plus" = true) (k2 : PySem.W.keepIn K (.ref f2) = true)
    (a3 : PySem.W.nsIn K mainGlobals "less" = some (some (.ref f3))) (l3 : K.lookup f3 = some ⟨oc3, od3, .func (PySem.W.fnOf "less" "less" (defArgs s3) (defBody s3) (defScope s3) .none kV3 dc3 pm3 an3 cd3 ct3), sl3⟩) (c3 : PySem.W.codeIn K cd3 "less" = true) (k3 : PySem.W.keepIn K (.ref f3) = true)
    (a4 : PySem.W.nsIn K mainGlobals "times" = some (some (.ref f4))) (l4 : K.lookup f4 = some ⟨oc4, od4, .func (PySem.W.fnOf "times" "times" (defArgs s4) (defBody s4) (defScope s4) .none kV4 dc4 pm4 an4 cd4 ct4), sl4⟩) (c4 : PySem.W.codeIn K cd4 "times" = true) (k4 : PySem.W.keepIn K (.ref f4) = true)
    (a5 : PySem.W.nsIn K mainGlobals "is_less" = some (some (.ref f5))) (l5 : K.lookup f5 = some ⟨oc5, od5, .func (PySem.W.fnOf "is_less" "is_less" (defArgs s5) (defBody s5) (defScope s5) .none kV5 dc5 pm5 an5 cd5 ct5), sl5⟩) (c5 : PySem.W.codeIn K cd5 "is_less" = true) (k5 : PySem.W.keepIn K (.ref f5) = true)
    (a6 : PySem.W.nsIn K mainGlobals "_law_stream" = some (some (.ref f6))) (l6 : K.lookup f6 = some ⟨oc6, od6, .func (PySem.W.fnOf "_law_stream" "_law_stream" (defArgs s6) (defBody s6) (defScope s6) .none kV6 dc6 pm6 an6 cd6 ct6), sl6⟩) (c6 : PySem.W.codeIn K cd6 "_law_stream" = true) (k6 : PySem.W.keepIn K (.ref f6) = true)
    (a7 : PySem.W.nsIn K mainGlobals "_law_take" = some (some (.ref f7))) (l7 : K.lookup f7 = some ⟨oc7, od7, .func (PySem.W.fnOf "_law_take" "_law_take" (defArgs s7) (defBody s7) (defScope s7) .none kV7 dc7 pm7 an7 cd7 ct7), sl7⟩) (c7 : PySem.W.codeIn K cd7 "_law_take" = true) (k7 : PySem.W.keepIn K (.ref f7) = true)
    (a8 : PySem.W.nsIn K mainGlobals "_law_fraction" = some (some (.ref f8))) (l8 : K.lookup f8 = some ⟨oc8, od8, .func (PySem.W.fnOf "_law_fraction" "_law_fraction" (defArgs s8) (defBody s8) (defScope s8) .none kV8 dc8 pm8 an8 cd8 ct8), sl8⟩) (c8 : PySem.W.codeIn K cd8 "_law_fraction" = true) (k8 : PySem.W.keepIn K (.ref f8) = true)
    (a9 : PySem.W.nsIn K mainGlobals "_law_turned_numbers" = some (some (.ref f9))) (l9 : K.lookup f9 = some ⟨oc9, od9, .func (PySem.W.fnOf "_law_turned_numbers" "_law_turned_numbers" (defArgs s9) (defBody s9) (defScope s9) .none kV9 dc9 pm9 an9 cd9 ct9), sl9⟩) (c9 : PySem.W.codeIn K cd9 "_law_turned_numbers" = true) (k9 : PySem.W.keepIn K (.ref f9) = true)
    (a10 : PySem.W.nsIn K mainGlobals "_law_drawn" = some (some (.ref f10))) (l10 : K.lookup f10 = some ⟨oc10, od10, .func (PySem.W.fnOf "_law_drawn" "_law_drawn" (defArgs s10) (defBody s10) (defScope s10) .none kV10 dc10 pm10 an10 cd10 ct10), sl10⟩) (c10 : PySem.W.codeIn K cd10 "_law_drawn" = true) (k10 : PySem.W.keepIn K (.ref f10) = true)
    (a11 : PySem.W.nsIn K mainGlobals "_law_summed" = some (some (.ref f11))) (l11 : K.lookup f11 = some ⟨oc11, od11, .func (PySem.W.fnOf "_law_summed" "_law_summed" (defArgs s11) (defBody s11) (defScope s11) .none kV11 dc11 pm11 an11 cd11 ct11), sl11⟩) (c11 : PySem.W.codeIn K cd11 "_law_summed" = true) (k11 : PySem.W.keepIn K (.ref f11) = true)
    (a12 : PySem.W.nsIn K mainGlobals "law" = some (some (.ref f12))) (l12 : K.lookup f12 = some ⟨oc12, od12, .func (PySem.W.fnOf "law" "law" (defArgs s12) (defBody s12) (defScope s12) .none kV12 dc12 pm12 an12 cd12 ct12), sl12⟩) (c12 : PySem.W.codeIn K cd12 "law" = true) (k12 : PySem.W.keepIn K (.ref f12) = true)
    (z_abs : PySem.W.nsIn K mainGlobals "abs" = some none)
    (z_bool : PySem.W.nsIn K mainGlobals "bool" = some none)
    (z_int : PySem.W.nsIn K mainGlobals "int" = some none)
    (z_isinstance : PySem.W.nsIn K mainGlobals "isinstance" = some none)
    (z_len : PySem.W.nsIn K mainGlobals "len" = some none)
    (z_list : PySem.W.nsIn K mainGlobals "list" = some none)
    (z_range : PySem.W.nsIn K mainGlobals "range" = some none)
    (z_sum : PySem.W.nsIn K mainGlobals "sum" = some none)
    (z_zip : PySem.W.nsIn K mainGlobals "zip" = some none)
    (nl : noL K = true) (hg : ∀ ns : List Int, ns.length ≤ 63 → ∃ o, run PP FUEL 12 12 [.lst false (ns.map D.int)] = some (.ret (.bl true) o)) :
    ∃ fd : FuncData, (∀ (s : Shared) (v : Value), BindsTo s fd ⟨[v], []⟩ [("_law_script", v)]) ∧ ∀ base : Heap, K.In base → base.Ns mainGlobals mg → FnOk PySem.Challenge.pw_cartways_k03_whole_lengths w K mg base (L2.CX PySem.Challenge.pw_cartways_k03_whole_lengths w) 13 fa fd ["_law_script"] (spLaw K 63) := by
  have e := hfa.symm.trans (PySem.W.mg_of X G a12)
  cases e
  have F0 := fun_mk (st := s0) l0 c0 k0
  have b0 := F0.binds (ps := ["first", "second"]) fun _ _ _ _ _ _ us hl => match us, hl with | [_, _], _ => rfl
  have F1 := fun_mk (st := s1) l1 c1 k1
  have b1 := F1.binds (ps := ["above", "below"]) fun _ _ _ _ _ _ us hl => match us, hl with | [_, _], _ => rfl
  have F2 := fun_mk (st := s2) l2 c2 k2
  have b2 := F2.binds (ps := ["first", "second"]) fun _ _ _ _ _ _ us hl => match us, hl with | [_, _], _ => rfl
  have F3 := fun_mk (st := s3) l3 c3 k3
  have b3 := F3.binds (ps := ["first", "second"]) fun _ _ _ _ _ _ us hl => match us, hl with | [_, _], _ => rfl
  have F4 := fun_mk (st := s4) l4 c4 k4
  have b4 := F4.binds (ps := ["first", "often"]) fun _ _ _ _ _ _ us hl => match us, hl with | [_, _], _ => rfl
  have F5 := fun_mk (st := s5) l5 c5 k5
  have b5 := F5.binds (ps := ["first", "second"]) fun _ _ _ _ _ _ us hl => match us, hl with | [_, _], _ => rfl
  have F6 := fun_mk (st := s6) l6 c6 k6
  have b6 := F6.binds (ps := ["_law_script", "_law_k"]) fun _ _ _ _ _ _ us hl => match us, hl with | [_, _], _ => rfl
  have F7 := fun_mk (st := s7) l7 c7 k7
  have b7 := F7.binds (ps := ["_law_stream_here", "_law_most"]) fun _ _ _ _ _ _ us hl => match us, hl with | [_, _], _ => rfl
  have F8 := fun_mk (st := s8) l8 c8 k8
  have b8 := F8.binds (ps := ["_law_above", "_law_below"]) fun _ _ _ _ _ _ us hl => match us, hl with | [_, _], _ => rfl
  have F9 := fun_mk (st := s9) l9 c9 k9
  have b9 := F9.binds (ps := ["_law_stream_here", "_law_many"]) fun _ _ _ _ _ _ us hl => match us, hl with | [_, _], _ => rfl
  have F10 := fun_mk (st := s10) l10 c10 k10
  have b10 := F10.binds (ps := ["_law_stream_here"]) fun _ _ _ _ _ _ us hl => match us, hl with | [_], _ => rfl
  have F11 := fun_mk (st := s11) l11 c11 k11
  have b11 := F11.binds (ps := ["_law_row", "_law_order"]) fun _ _ _ _ _ _ us hl => match us, hl with | [_, _], _ => rfl
  have F12 := fun_mk (st := s12) l12 c12 k12
  have b12 := F12.binds (ps := ["_law_script"]) fun _ _ _ _ _ _ us hl => match us, hl with | [_], _ => rfl
  have Z : NN mg := { z_abs := PySem.W.mg_none_of X G z_abs, z_bool := PySem.W.mg_none_of X G z_bool, z_int := PySem.W.mg_none_of X G z_int, z_isinstance := PySem.W.mg_none_of X G z_isinstance, z_len := PySem.W.mg_none_of X G z_len, z_list := PySem.W.mg_none_of X G z_list, z_range := PySem.W.mg_none_of X G z_range, z_sum := PySem.W.mg_none_of X G z_sum, z_zip := PySem.W.mg_none_of X G z_zip }
  refine ⟨PySem.W.fnOf "law" "law" (defArgs s12) (defBody s12) (defScope s12) .none kV12 dc12 pm12 an12 cd12 ct12, fun s v => .of_eq rfl, fun base _ _ => ?_⟩
  have L := all_ok (w := w) (base := base) F0 b0 (PySem.W.mg_of X G a0) F1 b1 (PySem.W.mg_of X G a1) F2 b2 (PySem.W.mg_of X G a2) F3 b3 (PySem.W.mg_of X G a3) F4 b4 (PySem.W.mg_of X G a4) F5 b5 (PySem.W.mg_of X G a5) F6 b6 (PySem.W.mg_of X G a6) F7 b7 (PySem.W.mg_of X G a7) F8 b8 (PySem.W.mg_of X G a8) F9 b9 (PySem.W.mg_of X G a9) F10 b10 (PySem.W.mg_of X G a10) F11 b11 (PySem.W.mg_of X G a11) F12 b12 (PySem.W.mg_of X G a12) Z 11
  have F : FnOk PySem.Challenge.pw_cartways_k03_whole_lengths w K mg base (L2.CX PySem.Challenge.pw_cartways_k03_whole_lengths w) 13 fa (PySem.W.fnOf "law" "law" (defArgs s12) (defBody s12) (defScope s12) .none kV12 dc12 pm12 an12 cd12 ct12) ["_law_script"] (spR K mg 1 (run PP FUEL (11 + 1) 12)) := by
    rw [run_succ (fn := fn12) rfl]
    exact fn_ok (fn := fn12) (Φ := run PP FUEL 11) (m := FUEL) F12 sc12 rfl rfl fun cdv A outer s H E hr C => body12 L Z hr C
  exact law_imp F nl hg
end WK

namespace WK
open PySem L2 VE
set_option exponentiation.threshold 5000
theorem mod_sm (c m : Int) (hm : 0 < m) (h : m < 2 ^ 40) : Sm 40 (c % m) := Sm.of (n := (m - 1).toNat) (by have := Int.emod_nonneg c (b := m) (by omega); have := Int.emod_lt_of_pos c (b := m) hm; omega) (by omega)
theorem take_sp {n : Nat} {S : D} {m : Int} (hS : Strm S) (hm : 0 < m) (hm' : m < 2 ^ 40) :
    ∃ v S', run PP FUEL (n + 1) ix__law_take [S, .int m] = some (.ret (.int v) [some S', some (.int m)]) ∧ Strm S' ∧ 0 ≤ v ∧ v < m := by
  obtain ⟨a, b, rfl, hb⟩ := hS
  have k1 : ∀ c : Int, Sm 40 (c % 2147483647) := fun c => mod_sm _ _ (by decide) (by decide)
  have k2 : Sm 40 48271 := Sm.of (n := 48271) (by decide) (by decide)
  have km : Sm 40 m := Sm.of (n := m.toNat) (by omega) (by omega)
  have e1 := bin_mul hb k2 (by decide) (by decide)
  have e2 := fun c => bin_mul (k1 c) (k1 c) (by decide) (by decide)
  have e3 : ∀ c, binop .mod (.int c) (.int m) = _ := fun c => bin_mod hm
  have e4 : ∀ c, binop .mod (.int c) (.int 2147483647) = _ := fun c => bin_mod (by decide)
  have e5 : ∀ c, binop .mod (.int c) (.int 2147483629) = _ := fun c => bin_mod (by decide)
  have e6 : ∀ c, binop .div (.int c) (.int m) = _ := fun c => bin_div hm km (by decide)
  by_cases h : a = 0
  · refine ⟨((b * 48271 + 12345) % 2147483647) * ((b * 48271 + 12345) % 2147483647) % 2147483629 % m, .lst true [.int 0, .int ((b * 48271 + 12345) % 2147483647)], ?_, ⟨_, _, rfl, (k1 _).mono (by decide)⟩, Int.emod_nonneg _ (by omega), Int.emod_lt_of_pos _ hm⟩
    rw [run_succ (fn := fn__law_take) rfl]
    simp [run1, fn__law_take, b__law_take, VE.start, ixAll_pl, ixAll_vl, h, e1, e2, e3, e4, e5]
  · refine ⟨a % m, .lst true [.int (a / m), .int b], ?_, ⟨_, _, rfl, hb⟩, Int.emod_nonneg _ (by omega), Int.emod_lt_of_pos _ hm⟩
    rw [run_succ (fn := fn__law_take) rfl]
    simp [run1, fn__law_take, b__law_take, VE.start, ixAll_pl, ixAll_vl, h, e3, e6]
theorem get_int {ns : List Int} {j : Nat} (h : j < ns.length) : (ns.map D.int)[j]? = some (.int ns[j]) := by
  rw [List.getElem?_map, List.getElem?_eq_getElem h]
  rfl
theorem fzs_int' (ns : List Int) : fzs (ns.map D.int) = true := fzs_int ns
theorem stream_sp {n : Nat} {ns : List Int} {j : Nat} (hj : j < 1000) :
    ∃ S, run PP FUEL (n + 1) ix__law_stream [.lst false (ns.map D.int), .int (j : Int)] = some (.ret S [some (.lst false (ns.map D.int)), some (.int (j : Int))]) ∧ Strm S := by
  have kj : Sm 40 (j : Int) := Sm.of (n := 1000) (by omega) (by decide)
  have e1 := bin_mul kj kj (by decide) (by decide)
  have e5 : ∀ c, binop .mod (.int c) (.int 2147483629) = _ := fun c => bin_mod (by decide)
  have e6 : binop .pow (.int 10) (.int 18) = some (.int 1000000000000000000) := rfl
  have k3 : Sm 99 ((j : Int) * j) := (kj.mul kj).mono (by decide)
  by_cases h : j < ns.length
  · have hg := get_int h
    have k4 : ∀ c : Int, Sm 100 (c % 2147483629 + (j : Int) * j + 1) := fun c => by
      have q := mod_sm c 2147483629 (by decide) (by decide)
      have : (j : Int) * j < 1000 * 1000 := by
        have : j * j < 1000 * 1000 := Nat.mul_lt_mul'' hj hj
        exact_mod_cast this
      have : 0 ≤ (j : Int) * j := Int.mul_nonneg (by omega) (by omega)
      have q2 : (c % 2147483629).natAbs < 2 ^ 40 := q
      exact Sm.of (n := 2 ^ 41) (by omega) (by decide)
    by_cases hc : (if ns[j] < 0 then -ns[j] else ns[j]) < 1000000000000000000
    · refine ⟨.lst true [.int 0, .int _], ?_, ⟨_, _, rfl, k4 (if ns[j] < 0 then -ns[j] else ns[j])⟩⟩
      rw [run_succ (fn := fn__law_stream) rfl]
      simp [run1, fn__law_stream, b__law_stream, VE.start, ixAll_pl, ixAll_vl, h, e1, e5, e6, hc, fzs_int]
    · refine ⟨.lst true [.int (if ns[j] < 0 then -ns[j] else ns[j]), .int _], ?_, ⟨_, _, rfl, k4 (if ns[j] < 0 then -ns[j] else ns[j])⟩⟩
      rw [run_succ (fn := fn__law_stream) rfl]
      simp [run1, fn__law_stream, b__law_stream, VE.start, ixAll_pl, ixAll_vl, h, e1, e5, e6, hc, fzs_int]
  · refine ⟨.lst true [.int 0, .int ((j : Int) * j + 11)], ?_, ⟨_, _, rfl, ?_⟩⟩
    · rw [run_succ (fn := fn__law_stream) rfl]
      simp [run1, fn__law_stream, b__law_stream, VE.start, ixAll_pl, ixAll_vl, h, e1, fzs_int]
    · exact k3.add ((Sm.of (n := 11) (by decide) (by decide) : Sm 99 11))
theorem fraction_sp {n : Nat} {a b : Int} (ha : 0 ≤ a) (hb : 0 < b) (sb : Sm 3000 b) :
    run PP FUEL (n + 1) ix__law_fraction [.int a, .int b] = some (.ret (.tup [.int (a / Int.gcd a b), .int (b / Int.gcd a b)]) [some (.int a), some (.int b)]) := by
  have hg := gcd_pos (a := a) hb
  have e6 : ∀ c, binop .div (.int c) (.int (Int.gcd a b)) = _ := fun c => bin_div hg (sb.gcd hb) (by decide)
  have hl := gcd_loop (c := ev (run PP FUEL n) (.cmp .gt (.var 3) (.lit (.int 0)))) (bdy := exs (run PP FUEL n) FUEL b__law_fraction_1)
    (mk := fun x y => [⟨true, some (.int a)⟩, ⟨true, some (.int b)⟩, ⟨false, some (.int x)⟩, ⟨false, some (.int y)⟩]) (fun x y => by simp) (fun x y hy => by simp [b__law_fraction_1, bin_mod hy]) FUEL a b ha (by omega) (by
      unfold Sm at sb
      have : 2 ^ 3000 < FUEL := Nat.pow_lt_pow_right (by decide) (by decide)
      omega)
  rw [run_succ (fn := fn__law_fraction) rfl]
  simp [run1, fn__law_fraction, b__law_fraction, VE.start, hl, e6]
theorem gcd_loop1 {c : SS → Option (O D)} {bdy : SS → Option (Fl × SS)} {mk : Int → Int → SS} {s0 : SS} {a b : Int} (hc : ∀ a b, c (mk a b) = some (.ok (.bl (decide (0 < b))) (mk a b))) (hb : ∀ a b, 0 < b → bdy (mk a b) = some (.nxt, mk b (a % b)))
    (ha : 0 ≤ a) (hb0 : 0 < b) (h0 : c s0 = some (.ok (.bl true) s0)) (h1 : bdy s0 = some (.nxt, mk b (a % b))) (hf : b.toNat < FUEL) : whlL c bdy FUEL s0 = some (.nxt, mk (Int.gcd a b) 0) := by
  have h2 := gcd_loop hc hb FUEL b (a % b) (by omega) (Int.emod_nonneg a (by omega)) (by have := Int.emod_lt_of_pos a hb0; omega)
  have h3 : (Int.gcd b (a % b) : Int) = Int.gcd a b := by
    have e1 := gcd_loop (c := fun s => some (.ok (.bl (match gt s 1 with | some (.int y) => decide (0 < y) | _ => false)) s)) (bdy := fun s => match gt s 0, gt s 1 with | some (.int x), some (.int y) => some (.nxt, [⟨true, some (.int y)⟩, ⟨true, some (.int (x % y))⟩]) | _, _ => none)
      (mk := fun x y => [⟨true, some (.int x)⟩, ⟨true, some (.int y)⟩]) (fun x y => by simp) (fun x y _ => by simp)
    have f1 := e1 (b.toNat + 1) a b ha (by omega) (by omega)
    have f2 := e1 b.toNat b (a % b) (by omega) (Int.emod_nonneg a (by omega)) (by have := Int.emod_lt_of_pos a hb0; omega)
    have f3 := f1
    simp only [whlL] at f3
    simp [hb0] at f3
    rw [f2] at f3
    simpa using f3
  rw [h3] at h2
  obtain ⟨m, hm⟩ : ∃ m, FUEL = m + 1 := ⟨FUEL - 1, by have : 0 < FUEL := Nat.pow_pos (by decide); omega⟩
  have h4 := gcd_loop hc hb m b (a % b) (by omega) (Int.emod_nonneg a (by omega)) (by have := Int.emod_lt_of_pos a hb0; omega)
  rw [h3] at h4
  rw [hm]
  show bnds (c s0) _ = _
  rw [h0]
  show (match bdy s0 with
        | some (.nxt, s) => whlL c bdy m s
        | some (.cnt, s) => whlL c bdy m s
        | some (.brk, s) => some (.nxt, s)
        | r => r) = _
  rw [h1]
  exact h4
theorem fuel_of {b : Int} (sb : Sm 3000 b) (hb : 0 ≤ b) : b.toNat < FUEL := by
  unfold Sm at sb
  have : 2 ^ 3000 < FUEL := Nat.pow_lt_pow_right (by decide) (by decide)
  omega
theorem common_sp {n : Nat} {a b : Int} (ha : 0 ≤ a) (hb : 0 < b) (sb : Sm 3000 b) :
    run PP FUEL (n + 1) ix_greatest_common [.int a, .int b] = some (.ret (.int (Int.gcd a b)) [none, none]) := by
  have hl := gcd_loop1 (c := ev (run PP FUEL n) (.cmp .gt (.var 1) (.lit (.int 0)))) (bdy := exs (run PP FUEL n) FUEL b_greatest_common_1)
    (mk := fun x y => [⟨false, some (.int x)⟩, ⟨false, some (.int y)⟩]) (s0 := [⟨true, some (.int a)⟩, ⟨true, some (.int b)⟩]) (fun x y => by simp) (fun x y hy => by simp [b_greatest_common_1, bin_mod hy]) ha hb (by simp [hb]) (by simp [b_greatest_common_1, bin_mod hb]) (fuel_of sb (by omega))
  rw [run_succ (fn := fn_greatest_common) rfl]
  simp [run1, fn_greatest_common, b_greatest_common, VE.start, hl]
theorem length_sp {n : Nat} {a b : Int} (ha : 0 ≤ a) (hb : 0 < b) (sb : Sm 3000 b) :
    run PP FUEL (n + 2) ix_length [.int a, .int b] = some (.ret (.tup [.int (a / Int.gcd a b), .int (b / Int.gcd a b)]) [some (.int a), some (.int b)]) := by
  have hg := gcd_pos (a := a) hb
  have e6 : ∀ c, binop .div (.int c) (.int (Int.gcd a b)) = _ := fun c => bin_div hg (sb.gcd hb) (by decide)
  have h1 := common_sp (n := n) ha hb sb
  rw [run_succ (fn := fn_length) rfl]
  have n1 : ¬ a < 0 := by omega
  have n2 : ¬ b < 1 := by omega
  simp [run1, fn_length, b_length, b_length_1, VE.start, items, frz, frzs, tyop, VE.callEnd, h1, e6, n1, n2]
theorem plus_sp {n : Nat} {p q p2 q2 : Int} (hp : 0 ≤ p) (hq : 0 < q) (hp2 : 0 ≤ p2) (hq2 : 0 < q2) (sp : Sm 1000 p) (sq : Sm 1000 q) (sp2 : Sm 1000 p2) (sq2 : Sm 1000 q2) :
    run PP FUEL (n + 3) ix_plus [.tup [.int p, .int q], .tup [.int p2, .int q2]] = some (.ret (.tup [.int ((p * q2 + p2 * q) / Int.gcd (p * q2 + p2 * q) (q * q2)), .int ((q * q2) / Int.gcd (p * q2 + p2 * q) (q * q2))]) [some (.tup [.int p, .int q]), some (.tup [.int p2, .int q2])]) := by
  have h1 := length_sp (n := n) (a := p * q2 + p2 * q) (b := q * q2) (Int.add_nonneg (Int.mul_nonneg hp (by omega)) (Int.mul_nonneg hp2 (by omega))) (Int.mul_pos hq hq2) ((sq.mul sq2).mono (by decide))
  rw [run_succ (fn := fn_plus) rfl]
  simp [run1, fn_plus, b_plus, VE.start, ixAll_pl, VE.callEnd, bin_mul sp sq2 (by decide) (by decide), bin_mul sp2 sq (by decide) (by decide), bin_mul sq sq2 (by decide) (by decide), h1]
theorem less_sp {n : Nat} {p q p2 q2 : Int} (hd : 0 ≤ p * q2 - p2 * q) (hq : 0 < q) (hq2 : 0 < q2) (sp : Sm 1000 p) (sq : Sm 1000 q) (sp2 : Sm 1000 p2) (sq2 : Sm 1000 q2) :
    run PP FUEL (n + 3) ix_less [.tup [.int p, .int q], .tup [.int p2, .int q2]] = some (.ret (.tup [.int ((p * q2 - p2 * q) / Int.gcd (p * q2 - p2 * q) (q * q2)), .int ((q * q2) / Int.gcd (p * q2 - p2 * q) (q * q2))]) [some (.tup [.int p, .int q]), some (.tup [.int p2, .int q2])]) := by
  have h1 := length_sp (n := n) (a := p * q2 - p2 * q) (b := q * q2) hd (Int.mul_pos hq hq2) ((sq.mul sq2).mono (by decide))
  rw [run_succ (fn := fn_less) rfl]
  simp [run1, fn_less, b_less, VE.start, ixAll_pl, VE.callEnd, bin_mul sp sq2 (by decide) (by decide), bin_mul sp2 sq (by decide) (by decide), bin_mul sq sq2 (by decide) (by decide), h1]
theorem times_sp {n : Nat} {p q o : Int} (hp : 0 ≤ p) (hq : 0 < q) (ho : 0 ≤ o) (sp : Sm 1000 p) (sq : Sm 1000 q) (so : Sm 1000 o) :
    run PP FUEL (n + 3) ix_times [.tup [.int p, .int q], .int o] = some (.ret (.tup [.int ((p * o) / Int.gcd (p * o) q), .int (q / Int.gcd (p * o) q)]) [some (.tup [.int p, .int q]), some (.int o)]) := by
  have h1 := length_sp (n := n) (a := p * o) (b := q) (Int.mul_nonneg hp ho) hq (sq.mono (by decide))
  rw [run_succ (fn := fn_times) rfl]
  simp [run1, fn_times, b_times, VE.start, ixAll_pl, VE.callEnd, bin_mul sp so (by decide) (by decide), h1]
theorem isless_sp {n : Nat} {p q p2 q2 : Int} (sp : Sm 1000 p) (sq : Sm 1000 q) (sp2 : Sm 1000 p2) (sq2 : Sm 1000 q2) :
    run PP FUEL (n + 1) ix_is_less [.tup [.int p, .int q], .tup [.int p2, .int q2]] = some (.ret (.bl (decide (p * q2 < p2 * q))) [some (.tup [.int p, .int q]), some (.tup [.int p2, .int q2])]) := by
  rw [run_succ (fn := fn_is_less) rfl]
  simp [run1, fn_is_less, b_is_less, VE.start, ixAll_pl, bin_mul sp sq2 (by decide) (by decide), bin_mul sp2 sq (by decide) (by decide)]
theorem Sm.red {a b : Int} {k : Nat} (ha : 0 ≤ a) (hb : 0 < b) (sa : Sm k a) (sb : Sm k b) : Sm k (redA a b) ∧ Sm k (redB a b) := ⟨sa.div ha (gcd_pos hb), sb.div (by omega) (gcd_pos hb)⟩
abbrev redD (a b : Int) : D := .tup [.int (redA a b), .int (redB a b)]
theorem plus_red {n : Nat} {X B p q : Int} (hX : 0 ≤ X) (hB : 0 < B) (sX : Sm 900 X) (sB : Sm 900 B) (hp : 0 ≤ p) (hq : 0 < q) (sp : Sm 900 p) (sq : Sm 900 q) (hd : q ∣ B) :
    run PP FUEL (n + 3) ix_plus [redD X B, .tup [.int p, .int q]] = some (.ret (redD (X + p * (B / q)) B) [some (redD X B), some (.tup [.int p, .int q])]) := by
  obtain ⟨s1, s2⟩ := Sm.red hX hB sX sB
  have h := plus_sp (n := n) (p := redA X B) (q := redB X B) (p2 := p) (q2 := q) (red_nonneg hX) (red_pos hB) hp hq (s1.mono (by decide)) (s2.mono (by decide)) (sp.mono (by decide)) (sq.mono (by decide))
  obtain ⟨e1, e2⟩ := red_plus (X := X) (p := p) hB hq hd
  have h' : run PP FUEL (n + 3) ix_plus [redD X B, .tup [.int p, .int q]] = some (.ret (.tup [.int (redA (redA X B * q + p * redB X B) (redB X B * q)), .int (redB (redA X B * q + p * redB X B) (redB X B * q))]) [some (redD X B), some (.tup [.int p, .int q])]) := h
  rw [e1, e2] at h'
  exact h'
theorem less_red {n : Nat} {X B p q : Int} (hX : 0 ≤ X - p * (B / q)) (hX0 : 0 ≤ X) (hB : 0 < B) (sX : Sm 900 X) (sB : Sm 900 B) (hp : 0 ≤ p) (hq : 0 < q) (sp : Sm 900 p) (sq : Sm 900 q) (hd : q ∣ B) :
    run PP FUEL (n + 3) ix_less [redD X B, .tup [.int p, .int q]] = some (.ret (redD (X - p * (B / q)) B) [some (redD X B), some (.tup [.int p, .int q])]) := by
  obtain ⟨s1, s2⟩ := Sm.red hX0 hB sX sB
  have hn : 0 ≤ redA X B * q - p * redB X B := by
    have hc := red_cross (a := X) hB
    obtain ⟨k, rfl⟩ := hd
    rw [Int.mul_ediv_cancel_left k (by omega)] at hX
    have hb := red_pos (a := X) hB
    generalize redA X (q * k) = x at *
    generalize redB X (q * k) = y at *
    have hk : 0 < k := by
      rcases Int.lt_or_le 0 k with h | h
      · exact h
      · have := Int.mul_nonpos_of_nonneg_of_nonpos (Int.le_of_lt hq) h
        omega
    have e : (x * q - p * y) * k = (X - p * k) * y := by
      rw [Int.sub_mul, Int.sub_mul, ← hc]
      congr 1 <;> ac_rfl
    have h3 : 0 ≤ (x * q - p * y) * k := by rw [e]; exact Int.mul_nonneg hX (by omega)
    rcases Int.lt_or_le (x * q - p * y) 0 with h | h
    · have := Int.mul_neg_of_neg_of_pos h hk
      omega
    · exact h
  have h := less_sp (n := n) (p := redA X B) (q := redB X B) (p2 := p) (q2 := q) hn (red_pos hB) hq (s1.mono (by decide)) (s2.mono (by decide)) (sp.mono (by decide)) (sq.mono (by decide))
  obtain ⟨e1, e2⟩ := red_less (X := X) (p := p) hB hq hd
  have h' : run PP FUEL (n + 3) ix_less [redD X B, .tup [.int p, .int q]] = some (.ret (.tup [.int (redA (redA X B * q - p * redB X B) (redB X B * q)), .int (redB (redA X B * q - p * redB X B) (redB X B * q))]) [some (redD X B), some (.tup [.int p, .int q])]) := h
  rw [e1, e2] at h'
  exact h'
/-- a row's item -/
structure Rw (r : Int × Int) : Prop where
  p0 : 0 ≤ r.1
  p1 : r.1 ≤ 1000
  q0 : 0 < r.2
  q1 : r.2 ≤ 1000
  cop : Int.gcd r.1 r.2 = 1
def rowD (r : Int × Int) : D := .tup [.int r.1, .int r.2]
theorem Rw.sp {r : Int × Int} (h : Rw r) : Sm 900 r.1 ∧ Sm 900 r.2 := ⟨Sm.num 1000 h.p0 (by have := h.p1; omega) (by decide), Sm.num 1000 (by have := h.q0; omega) (by have := h.q1; omega) (by decide)⟩
theorem rw_red {a b : Int} (ha : 0 ≤ a) (hb : 0 < b) (ha1 : a ≤ 1000) (hb1 : b ≤ 1000) : Rw (redA a b, redB a b) :=
  ⟨red_nonneg ha, Int.le_trans (Int.ediv_le_self _ ha) ha1, red_pos hb, Int.le_trans (Int.ediv_le_self _ (by omega)) hb1, red_cop hb⟩
theorem drawn_sp {n : Nat} {S : D} (hS : Strm S) : ∃ r S', run PP FUEL (n + 2) ix__law_drawn [S] = some (.ret (rowD r) [some S']) ∧ Strm S' ∧ Rw r := by
  have f0 := hS.fz
  obtain ⟨k, S1, h1, hS1, k0, k5⟩ := take_sp (n := n) (m := 4) hS (by decide) (by decide)
  have f1 := hS1.fz
  by_cases c0 : k = 0
  · obtain ⟨v, S2, h2, hS2, v0, v1⟩ := take_sp (n := n) (m := 9) hS1 (by decide) (by decide)
    have f2 := hS2.fz
    refine ⟨(v, 1), S2, ?_, hS2, v0, by show v ≤ 1000; omega, by show (0 : Int) < 1; decide, by show (1 : Int) ≤ 1000; decide, by show Int.gcd v 1 = 1; simp⟩
    rw [run_succ (fn := fn__law_drawn) rfl]
    simp [run1, fn__law_drawn, b__law_drawn, VE.start, VE.callEnd, h1, h2, f0, f1, f2, c0, rowD]
  · by_cases c1 : k = 1
    · obtain ⟨v, S2, h2, hS2, v0, v1⟩ := take_sp (n := n) (m := 40) hS1 (by decide) (by decide)
      have f2 := hS2.fz
      have h4 := fraction_sp (n := n) (a := v) (b := 12) v0 (by decide) (Sm.num 20 (by omega) (by omega) (by decide))
      refine ⟨(redA v 12, redB v 12), S2, ?_, hS2, rw_red v0 (by decide) (by omega) (by decide)⟩
      rw [run_succ (fn := fn__law_drawn) rfl]
      simp [run1, fn__law_drawn, b__law_drawn, VE.start, VE.callEnd, h1, h2, h4, f0, f1, f2, c1, rowD, redA, redB]
    · by_cases c2 : k = 2
      · obtain ⟨v, S2, h2, hS2, v0, v1⟩ := take_sp (n := n) (m := 1000) hS1 (by decide) (by decide)
        have f2 := hS2.fz
        obtain ⟨u, S3, h3, hS3, u0, u1⟩ := take_sp (n := n) (m := 1000) hS2 (by decide) (by decide)
        have f3 := hS3.fz
        have h4 := fraction_sp (n := n) (a := 1 + v) (b := 1 + u) (by omega) (by omega) (Sm.num 2000 (by omega) (by omega) (by decide))
        refine ⟨(redA (1 + v) (1 + u), redB (1 + v) (1 + u)), S3, ?_, hS3, rw_red (by omega) (by omega) (by omega) (by omega)⟩
        rw [run_succ (fn := fn__law_drawn) rfl]
        simp [run1, fn__law_drawn, b__law_drawn, VE.start, VE.callEnd, h1, h2, h3, h4, f0, f1, f2, f3, c2, rowD, redA, redB]
      · refine ⟨(0, 1), S1, ?_, hS1, by decide, by decide, by decide, by decide, by decide⟩
        rw [run_succ (fn := fn__law_drawn) rfl]
        simp [run1, fn__law_drawn, b__law_drawn, VE.start, VE.callEnd, h1, f0, f1, c0, c1, c2, rowD]
/-- the sum of some of them, over B -/
def tot (B : Int) (rs : List (Int × Int)) : Int := (rs.map fun r => r.1 * (B / r.2)).sum
theorem tot_nonneg {B : Int} (hB : 0 < B) : ∀ {rs : List (Int × Int)}, (∀ r ∈ rs, Rw r) → 0 ≤ tot B rs
  | [], _ => by simp [tot]
  | r :: rs, h => by
    have ih := tot_nonneg hB (rs := rs) fun x hx => h x (List.mem_cons_of_mem _ hx)
    have hr := h r List.mem_cons_self
    have : 0 ≤ r.1 * (B / r.2) := Int.mul_nonneg hr.p0 (Int.ediv_nonneg (by omega) (by have := hr.q0; omega))
    have e : tot B (r :: rs) = r.1 * (B / r.2) + tot B rs := by simp [tot]
    omega
theorem nums_loop {n : Nat} : ∀ (m W : Nat) (left found : List Int) (S : D) (k : D), left.length = m → m < W → found.length + m ≤ 100 → Strm S → ∃ (found' : List Int) (S' : D), whlL (ev (run PP FUEL (n + 1)) (.cmp .ne (.var 2) (.lst .nil))) (exs (run PP FUEL (n + 1)) FUEL b__law_turned_numbers_1) W [⟨true, some S⟩, ⟨true, some k⟩, ⟨false, some (.lst true (left.map D.int))⟩, ⟨false, some (.lst true (found.map D.int))⟩] =
      some (.nxt, [⟨true, some S'⟩, ⟨true, some k⟩, ⟨false, some (.lst true [])⟩, ⟨false, some (.lst true (found'.map D.int))⟩]) ∧ Strm S' ∧ found'.Perm (found ++ left) := by
  intro m
  induction m with
  | zero =>
    intro W left found S k hl hW hf hS
    obtain ⟨W, rfl⟩ : ∃ V, W = V + 1 := ⟨W - 1, by omega⟩
    obtain rfl := List.length_eq_zero_iff.mp hl
    refine ⟨found, S, ?_, hS, by simp⟩
    simp [whlL, cmp_neD]
  | succ m ih =>
    intro W left found S k hl hW hf hS
    obtain ⟨W, rfl⟩ : ∃ V, W = V + 1 := ⟨W - 1, by omega⟩
    have f0 := hS.fz
    obtain ⟨v, S1, h1, hS1, v0, v1⟩ := take_sp (n := n) (m := (left.length : Int)) hS (by omega) (by omega)
    obtain ⟨j, rfl⟩ := Int.eq_ofNat_of_zero_le v0
    have hj : j < left.length := by omega
    have e1 := mu_popAt (xs := left.map D.int) (j := j) (by omega) (get_int hj)
    have e2 : (left.map D.int).eraseIdx j = (left.eraseIdx j).map D.int := (erase_map D.int left j).symm
    rw [e2] at e1
    have e3 := mu_append (xs := found.map D.int) (d := .int left[j]) (by simp; omega)
    have e4 : found.map D.int ++ [D.int left[j]] = (found ++ [left[j]]).map D.int := by simp
    rw [e4] at e3
    obtain ⟨found', S', h2, hS', hp⟩ := ih W (left.eraseIdx j) (found ++ [left[j]]) S1 k (by rw [List.length_eraseIdx]; simp [hj]; omega) (by omega) (by simp; omega) hS1
    refine ⟨found', S', ?_, hS', hp.trans ?_⟩
    · rw [← h2]
      have hne : left ≠ [] := fun e => by rw [e] at hj; simp at hj
      have c1 : ev (run PP FUEL (n + 1)) (.cmp .ne (.var 2) (.lst .nil)) [⟨true, some S⟩, ⟨true, some k⟩, ⟨false, some (.lst true (left.map D.int))⟩, ⟨false, some (.lst true (found.map D.int))⟩] = some (.ok (.bl true) [⟨true, some S⟩, ⟨true, some k⟩, ⟨false, some (.lst true (left.map D.int))⟩, ⟨false, some (.lst true (found.map D.int))⟩]) := by
        have := eqDs_ints left []
        simp [hne] at this
        simp [cmp_neD, okds_ints, this]
      have c2 : exs (run PP FUEL (n + 1)) FUEL b__law_turned_numbers_1 [⟨true, some S⟩, ⟨true, some k⟩, ⟨false, some (.lst true (left.map D.int))⟩, ⟨false, some (.lst true (found.map D.int))⟩] = some (.nxt, [⟨true, some S1⟩, ⟨true, some k⟩, ⟨false, some (.lst true ((left.eraseIdx j).map D.int))⟩, ⟨false, some (.lst true ((found ++ [left[j]]).map D.int))⟩]) := by
        simp [b__law_turned_numbers_1, mut0, mutEnd, VE.callEnd, h1, f0, e1, e3, -List.map_append]
      simp only [whlL, c1, c2, bnds_ok]
    · rw [List.append_assoc]
      refine List.Perm.append_left _ ?_
      show (left[j] :: left.eraseIdx j).Perm left
      exact (perm_erase (List.getElem?_eq_getElem hj)).symm
theorem nums_sp {n : Nat} {S : D} {m : Nat} (hS : Strm S) (hm : m ≤ 50) : ∃ (ns : List Int) (S' : D), run PP FUEL (n + 2) ix__law_turned_numbers [S, .int (m : Int)] = some (.ret (.lst true (ns.map D.int)) [some S', some (.int (m : Int))]) ∧ Strm S' ∧ ns.Perm ((List.range m).map fun i : Nat => (i : Int)) := by
  obtain ⟨ns, S', h, hS', hp⟩ := nums_loop (n := n) m FUEL ((List.range m).map fun i : Nat => (i : Int)) [] S (.int (m : Int)) (by simp) (by
    have : 2 ^ 20 < FUEL := Nat.pow_lt_pow_right (by decide) (by decide)
    omega) (by simp; omega) hS
  refine ⟨ns, S', ?_, hS', by simpa using hp⟩
  have hB : okB (-(2 ^ 62) ≤ (m : Int) ∧ (m : Int) ≤ (LIM : Int)) = true := okB_iff.mpr ⟨by omega, by show (m : Int) ≤ 16777216; omega⟩
  have e1 : rng 0 ((m : Int).toNat) = ((List.range m).map fun i : Nat => (i : Int)).map D.int := by
    unfold rng
    rw [List.map_map]
    apply List.map_congr_left
    intro i _
    simp
  rw [run_succ (fn := fn__law_turned_numbers) rfl]
  simp only [List.map_nil] at h
  have f0 := hS.fz
  have : ex (run PP FUEL (n + 1)) FUEL (.asg (.nm 2) (.lrg (.var 1))) [⟨true, some S⟩, ⟨true, some (.int (m : Int))⟩, ⟨false, none⟩, ⟨false, none⟩] = some (.nxt, [⟨true, some S⟩, ⟨true, some (.int (m : Int))⟩, ⟨false, some (.lst true (((List.range m).map fun i : Nat => (i : Int)).map D.int))⟩, ⟨false, none⟩]) := by
    rw [← e1]
    rw [ex_asg, ev_lrg]
    simp only [ev_var, sl_s, sl_0, fz_int, if_true, bnd_ok, hB]
    simp
  simp [run1, fn__law_turned_numbers, b__law_turned_numbers, VE.start, this, -ex_asg, -List.map_map]
  simp [h, -List.map_map]
theorem tot_app (B : Int) (a b : List (Int × Int)) : tot B (a ++ b) = tot B a + tot B b := by simp [tot]
theorem tot_le {B : Int} (hB : 0 < B) : ∀ {rs : List (Int × Int)}, (∀ r ∈ rs, Rw r) → tot B rs ≤ rs.length * (1000 * B)
  | [], _ => by simp [tot]
  | r :: rs, h => by
    have ih := tot_le hB (rs := rs) fun x hx => h x (List.mem_cons_of_mem _ hx)
    have hr := h r List.mem_cons_self
    have h1 : B / r.2 ≤ B := Int.ediv_le_self _ (by omega)
    have h0 : 0 ≤ B / r.2 := Int.ediv_nonneg (by omega) (by have := hr.q0; omega)
    have h2 : r.1 * (B / r.2) ≤ 1000 * B := Int.mul_le_mul hr.p1 h1 h0 (by decide)
    have e : tot B (r :: rs) = r.1 * (B / r.2) + tot B rs := by simp [tot]
    rw [e, List.length_cons]
    have e2 : ((rs.length + 1 : Nat) : Int) * (1000 * B) = rs.length * (1000 * B) + 1000 * B := by
      rw [Int.natCast_add, Int.add_mul]
      simp
    rw [e2]
    omega
def sel (rows : List (Int × Int)) (js : List Nat) : List (Int × Int) := js.filterMap fun j => rows[j]?
theorem sel_mem {rows : List (Int × Int)} {js : List Nat} {r : Int × Int} (h : r ∈ sel rows js) : r ∈ rows := by
  obtain ⟨j, _, e⟩ := List.mem_filterMap.mp h
  exact List.mem_of_getElem? e
theorem sel_len (rows : List (Int × Int)) (js : List Nat) : (sel rows js).length ≤ js.length := List.length_filterMap_le _ _
theorem rows_fz (rows : List (Int × Int)) : fzs (rows.map rowD) = true := fzs_of fun d hd => by
  obtain ⟨r, _, rfl⟩ := List.mem_map.mp hd
  rfl
theorem rows_get {rows : List (Int × Int)} {j : Nat} (h : j < rows.length) : (rows.map rowD)[j]? = some (rowD rows[j]) := by
  rw [List.getElem?_map, List.getElem?_eq_getElem h]
  rfl
theorem rows_ix {rows : List (Int × Int)} {j i : Nat} {o : Bool} {s : SS} (hg : gt s i = some (.lst o (rows.map rowD))) (h : j < rows.length) : ixAll (.pl i) (.int (j : Int)) s = some (.ok (rowD rows[j]) s) := by
  rw [ixAll_pl, hg]
  have e : fz (rowD rows[j]) = true := rfl
  simp [h, e]
theorem summed_sp {n : Nat} {o o2 : Bool} {B : Int} {rows : List (Int × Int)} {js : List Nat} (hR : ∀ r ∈ rows, Rw r) (hB : 0 < B) (hB2 : B ≤ 10 ^ 60) (hd : ∀ r ∈ rows, r.2 ∣ B) (hj : ∀ j ∈ js, j < rows.length) (hl : js.length ≤ 60) :
    run PP FUEL (n + 4) ix__law_summed [.lst o (rows.map rowD), .lst o2 (js.map fun j : Nat => D.int (j : Int))] = some (.ret (redD (tot B (sel rows js)) B) [some (.lst o (rows.map rowD)), some (.lst false (js.map fun j : Nat => D.int (j : Int)))]) := by
  have fR := rows_fz rows
  have fJ : fzs (js.map fun j : Nat => D.int (j : Int)) = true := fzs_of fun d hd => by
    obtain ⟨r, _, rfl⟩ := List.mem_map.mp hd
    rfl
  have ez : frz (.lst o2 (js.map fun j : Nat => D.int (j : Int))) = .lst false (js.map fun j : Nat => D.int (j : Int)) := by
    cases o2 <;> (show D.lst false (frzs (js.map fun j : Nat => D.int (j : Int))) = _; rw [frzs_of_fzs _ fJ])
  have sB : Sm 900 B := Sm.num (10 ^ 60) (by omega) (by omega) (by decide)
  have sX : ∀ i, Sm 900 (tot B (sel rows (js.take i))) := fun i => by
    have h1 := tot_nonneg hB (rs := sel rows (js.take i)) fun r hr => hR r (sel_mem hr)
    have h2 := tot_le hB (rs := sel rows (js.take i)) fun r hr => hR r (sel_mem hr)
    have h3 : (sel rows (js.take i)).length ≤ 60 := Nat.le_trans (sel_len _ _) (by simp; omega)
    have h4 : ((sel rows (js.take i)).length : Int) * (1000 * B) ≤ 60 * (1000 * B) := Int.mul_le_mul_of_nonneg_right (by omega) (by omega)
    exact Sm.num (60 * 1000 * 10 ^ 60) h1 (by omega) (by decide)
  obtain ⟨s', h1, x3, rfl⟩ := fo_ix (Φ := run PP FUEL (n + 3)) (w := FUEL) (p := .nm 3) (it := .ex (.var 1)) (r := b__law_summed_1) (xs := js.map fun j : Nat => D.int (j : Int))
    (fun i s => ∃ x3 : Sl, s = [⟨true, some (.lst o (rows.map rowD))⟩, ⟨true, some (.lst false (js.map fun j : Nat => D.int (j : Int)))⟩, ⟨false, some (redD (tot B (sel rows (js.take i))) B)⟩, x3])
    (s := [⟨true, some (.lst o (rows.map rowD))⟩, ⟨true, some (.lst o2 (js.map fun j : Nat => D.int (j : Int)))⟩, ⟨false, some (.tup [.int 0, .int 1])⟩, ⟨false, none⟩]) (s1 := [⟨true, some (.lst o (rows.map rowD))⟩, ⟨true, some (.lst false (js.map fun j : Nat => D.int (j : Int)))⟩, ⟨false, some (.tup [.int 0, .int 1])⟩, ⟨false, none⟩])
    (by cases o2 <;> simp [ez, fJ, frz_of_fz, items]) ⟨_, by
      have e1 : redD (tot B (sel rows (js.take 0))) B = .tup [.int 0, .int 1] := by
        show D.tup [.int (0 / Int.gcd 0 B), .int (B / Int.gcd 0 B)] = _
        rw [Int.gcd_zero_left]
        have : (B.natAbs : Int) = B := by omega
        rw [this, Int.ediv_self (by omega)]
        simp
      rw [e1]⟩ (by
    rintro i x hx s ⟨x3, rfl⟩
    rw [List.getElem?_map] at hx
    obtain ⟨j, ej, rfl⟩ := map_some' hx
    have hj' : j < rows.length := hj j (List.mem_of_getElem? ej)
    have hr := hR rows[j] (List.getElem_mem hj')
    obtain ⟨s1, s2⟩ := hr.sp
    have h2 := plus_red (n := n) (X := tot B (sel rows (js.take i))) (B := B) (p := rows[j].1) (q := rows[j].2) (tot_nonneg hB fun r hr => hR r (sel_mem hr)) hB (sX i) sB hr.p0 hr.q0 s1 s2 (hd _ (List.getElem_mem hj'))
    have e1 : tot B (sel rows (js.take (i + 1))) = tot B (sel rows (js.take i)) + rows[j].1 * (B / rows[j].2) := by
      rw [List.take_add_one, ej]
      have : sel rows (js.take i ++ [j]) = sel rows (js.take i) ++ [rows[j]] := by
        unfold sel
        rw [List.filterMap_append]
        simp [hj']
      show tot B (sel rows (js.take i ++ [j])) = _
      rw [this, tot_app]
      simp [tot]
    rw [e1]
    have g := fun s hs => rows_ix (rows := rows) (j := j) (i := 0) (o := o) (s := s) hs hj'
    have f1 : fz (redD (tot B (sel rows (js.take i))) B) = true := rfl
    refine ⟨_, _, bind_nm.trans (if_pos (by simp)), .inl ?_, ⟨false, some (.int (j : Int))⟩, rfl⟩
    have h2' : run PP FUEL (n + 3) ix_plus [redD (tot B (sel rows (js.take i))) B, rowD rows[j]] = _ := h2
    simp [b__law_summed_1, VE.callEnd, g, h2'])
  rw [List.length_map, List.take_length] at h1
  rw [run_succ (fn := fn__law_summed) rfl]
  simp [run1, fn__law_summed, b__law_summed, VE.start, h1, -ex_fo]
theorem stream_at {n : Nat} {ns : List Int} (j : Nat) (k : Int) (hk : (j : Int) = k) (hj : j < 1000) :
    ∃ S, run PP FUEL (n + 1) ix__law_stream [.lst false (ns.map D.int), .int k] = some (.ret S [some (.lst false (ns.map D.int)), some (.int k)]) ∧ Strm S := by
  subst hk
  exact stream_sp hj
theorem rows_of {ds : List D} (h : ∀ d ∈ ds, ∃ r, d = rowD r ∧ Rw r) : ∃ rows : List (Int × Int), ds = rows.map rowD ∧ ∀ r ∈ rows, Rw r := by
  induction ds with
  | nil => exact ⟨[], rfl, by simp⟩
  | cons d ds ih =>
    obtain ⟨r, rfl, hr⟩ := h d List.mem_cons_self
    obtain ⟨rows, rfl, hrs⟩ := ih fun x hx => h x (List.mem_cons_of_mem _ hx)
    refine ⟨r :: rows, rfl, fun x hx => ?_⟩
    rcases List.mem_cons.mp hx with rfl | hx
    · exact hr
    · exact hrs x hx
/-- the row is drawn -/
theorem row_sp {n : Nat} {sc : D} {S : D} {x2 x3 x4 x5 x7 x8 x9 x10 x11 : Sl} (hS : Strm S) : ∃ (rows : List (Int × Int)) (S' : D),
    ev (run PP FUEL (n + 4)) (.comp [6] (.call ix__law_drawn (.cons (.var 1) .nil)) (.nm 6) (.r1 (.bin .add (.lit (.int 1)) (.call ix__law_take (.cons (.var 1) (.cons (.lit (.int 18)) .nil))))) .no)
      [⟨true, some sc⟩, ⟨false, some S⟩, x2, x3, x4, x5, ⟨false, none⟩, x7, x8, x9, x10, x11]
      = some (.ok (.lst true (rows.map rowD)) [⟨true, some sc⟩, ⟨false, some S'⟩, x2, x3, x4, x5, ⟨false, none⟩, x7, x8, x9, x10, x11]) ∧ Strm S' ∧ (∀ r ∈ rows, Rw r) ∧ 0 < rows.length ∧ rows.length ≤ 18 := by
  have f0 := hS.fz
  obtain ⟨v, S1, h1, hS1, v0, v1⟩ := take_sp (n := n + 3) (m := 18) hS (by decide) (by decide)
  have er : rngOk (1 + v) = true := rngOk_of (by omega)
  obtain ⟨ds, t, h2, h3, h4, S', hS', rfl⟩ := comp_rel (rt := evt (run PP FUEL (n + 4)) (.r1 (.bin .add (.lit (.int 1)) (.call ix__law_take (.cons (.var 1) (.cons (.lit (.int 18)) .nil)))))) (pt := .nm 6) (rc := evc (run PP FUEL (n + 4)) .no) (re := ev (run PP FUEL (n + 4)) (.call ix__law_drawn (.cons (.var 1) .nil))) (own := [6])
    (s := [⟨true, some sc⟩, ⟨false, some S⟩, x2, x3, x4, x5, ⟨false, none⟩, x7, x8, x9, x10, x11]) (s1 := [⟨true, some sc⟩, ⟨false, some S1⟩, x2, x3, x4, x5, ⟨false, none⟩, x7, x8, x9, x10, x11]) (xs := rng 0 (1 + v).toNat)
    (fun s => ∃ S, Strm S ∧ s = [⟨true, some sc⟩, ⟨false, some S⟩, x2, x3, x4, x5, ⟨false, none⟩, x7, x8, x9, x10, x11]) (fun d => ∃ r, d = rowD r ∧ Rw r)
    (by simp [VE.callEnd, h1, f0, er]) (by simp [ownOk]) ⟨S1, hS1, by simp [wips, wip1]⟩ (by simp; omega) (by
    rintro x hx s ⟨Z, hZ, rfl⟩
    have g0 := hZ.fz
    obtain ⟨r, Z', h5, hZ', hr⟩ := drawn_sp (n := n + 2) hZ
    refine ⟨rowD r, [⟨true, some sc⟩, ⟨false, some Z'⟩, x2, x3, x4, x5, ⟨false, some x⟩, x7, x8, x9, x10, x11], ?_, ⟨r, rfl, hr⟩, Z', hZ', by simp [wips, wip1]⟩
    simp [compF, VE.callEnd, h5, g0])
  obtain ⟨rows, rfl, hR⟩ := rows_of h4
  refine ⟨rows, S', ?_, hS', hR, ?_, ?_⟩
  · rw [ev_comp, h2]
    simp [rsts, rst1]
  · simp at h3; omega
  · simp at h3; omega
def prd (rows : List (Int × Int)) : Int := rows.foldl (fun b r => b * r.2) 1
theorem prd_app (a : List (Int × Int)) (r : Int × Int) : prd (a ++ [r]) = prd a * r.2 := by simp [prd]
theorem prd_go (l : List (Int × Int)) : ∀ b : Int, l.foldl (fun b r => b * r.2) b = b * prd l := by
  unfold prd
  induction l with
  | nil => intro b; simp
  | cons r l ih =>
    intro b
    show l.foldl (fun b r => b * r.2) (b * r.2) = b * l.foldl (fun b r => b * r.2) (1 * r.2)
    rw [ih (b * r.2), ih (1 * r.2), Int.one_mul, Int.mul_assoc]
theorem prd_cons (r : Int × Int) (l : List (Int × Int)) : prd (r :: l) = r.2 * prd l := by
  show l.foldl (fun b r => b * r.2) (1 * r.2) = _
  rw [prd_go, Int.one_mul]
theorem prd_pos : ∀ {l : List (Int × Int)}, (∀ r ∈ l, Rw r) → 0 < prd l
  | [], _ => by decide
  | r :: l, h => by
    rw [prd_cons]
    exact Int.mul_pos (h r List.mem_cons_self).q0 (prd_pos fun x hx => h x (List.mem_cons_of_mem _ hx))
theorem prd_dvd : ∀ {l : List (Int × Int)} {r : Int × Int}, r ∈ l → r.2 ∣ prd l
  | [], _, h => by cases h
  | x :: l, r, h => by
    rw [prd_cons]
    rcases List.mem_cons.mp h with rfl | h
    · exact Int.dvd_mul_right _ _
    · exact Int.dvd_trans (prd_dvd h) (Int.dvd_mul_left _ _)
theorem prd_le : ∀ {l : List (Int × Int)}, (∀ r ∈ l, Rw r) → prd l ≤ 1000 ^ l.length
  | [], _ => by simp [prd]
  | r :: l, h => by
    have ih := prd_le (l := l) fun x hx => h x (List.mem_cons_of_mem _ hx)
    have hp := prd_pos (l := l) fun x hx => h x (List.mem_cons_of_mem _ hx)
    have hr := h r List.mem_cons_self
    rw [prd_cons, List.length_cons, Int.pow_succ, Int.mul_comm]
    exact Int.mul_le_mul ih hr.q1 (Int.le_of_lt hr.q0) (Int.le_of_lt (Int.lt_of_lt_of_le hp ih))
theorem prd_small {l : List (Int × Int)} (h : ∀ r ∈ l, Rw r) (hl : l.length ≤ 18) : prd l ≤ 10 ^ 60 := by
  have h1 := prd_le h
  have h2 : (1000 : Int) ^ l.length ≤ 1000 ^ 18 := by
    have : (1000 : Nat) ^ l.length ≤ 1000 ^ 18 := Nat.pow_le_pow_right (by decide) hl
    exact_mod_cast this
  have h3 : (1000 : Int) ^ 18 ≤ 10 ^ 60 := by decide
  omega
def FzS (a : Sl) : Prop := ∀ d, a.d = some d → fz d = true
theorem below_sp {n : Nat} {sc S : D} {rows : List (Int × Int)} {x4 x5 x6 x7 x10 x11 : Sl} (hR : ∀ r ∈ rows, Rw r) (hl : rows.length ≤ 18) : ∃ x8 x9 : Sl, FzS x8 ∧ FzS x9 ∧
    ex (run PP FUEL (n + 4)) FUEL (.fo (.tp [(.nm 8), (.nm 9)]) (.ex (.var 2)) b_law_1) [⟨true, some sc⟩, ⟨false, some S⟩, ⟨false, some (.lst true (rows.map rowD))⟩, ⟨false, some (.int 1)⟩, x4, x5, x6, x7, ⟨false, none⟩, ⟨false, none⟩, x10, x11]
      = some (.nxt, [⟨true, some sc⟩, ⟨false, some S⟩, ⟨false, some (.lst false (rows.map rowD))⟩, ⟨false, some (.int (prd rows))⟩, x4, x5, x6, x7, x8, x9, x10, x11]) := by
  have fR := rows_fz rows
  have ez : frz (.lst true (rows.map rowD)) = .lst false (rows.map rowD) := by
    show D.lst false (frzs (rows.map rowD)) = _
    rw [frzs_of_fzs _ fR]
  have ez2 : frz (.lst false (rows.map rowD)) = .lst false (rows.map rowD) := by
    show D.lst false (frzs (rows.map rowD)) = _
    rw [frzs_of_fzs _ fR]
  obtain ⟨s', h1, x8, x9, f8, f9, rfl⟩ := fo_ix (Φ := run PP FUEL (n + 4)) (w := FUEL) (p := .tp [(.nm 8), (.nm 9)]) (it := .ex (.var 2)) (r := b_law_1) (xs := rows.map rowD)
    (fun i s => ∃ x8 x9 : Sl, FzS x8 ∧ FzS x9 ∧ s = [⟨true, some sc⟩, ⟨false, some S⟩, ⟨false, some (.lst false (rows.map rowD))⟩, ⟨false, some (.int (prd (rows.take i)))⟩, x4, x5, x6, x7, x8, x9, x10, x11])
    (s := [⟨true, some sc⟩, ⟨false, some S⟩, ⟨false, some (.lst true (rows.map rowD))⟩, ⟨false, some (.int 1)⟩, x4, x5, x6, x7, ⟨false, none⟩, ⟨false, none⟩, x10, x11])
    (s1 := [⟨true, some sc⟩, ⟨false, some S⟩, ⟨false, some (.lst false (rows.map rowD))⟩, ⟨false, some (.int 1)⟩, x4, x5, x6, x7, ⟨false, none⟩, ⟨false, none⟩, x10, x11])
    (by simp [ez, ez2, items]) ⟨⟨false, none⟩, ⟨false, none⟩, (fun d h => by cases h), (fun d h => by cases h), rfl⟩ (by
    rintro i x hx s ⟨x8, x9, _, _, rfl⟩
    rw [List.getElem?_map] at hx
    obtain ⟨r, er, rfl⟩ := map_some' hx
    have hr := hR r (List.mem_of_getElem? er)
    have ht : rows.take (i + 1) = rows.take i ++ [r] := by rw [List.take_add_one, er]; rfl
    have hT : ∀ z ∈ rows.take i, Rw z := fun z hz => hR z (List.mem_of_mem_take hz)
    have hp := prd_pos hT
    have hs := prd_small hT (by simp; omega)
    have e1 := bin_mul (i := prd (rows.take i)) (j := r.2) (Sm.num (k := 900) (10 ^ 60) (by omega) (by omega) (by decide)) hr.sp.2 (by decide) (by decide)
    rw [ht, prd_app]
    refine ⟨_, [⟨true, some sc⟩, ⟨false, some S⟩, ⟨false, some (.lst false (rows.map rowD))⟩, ⟨false, some (.int (prd (rows.take i) * r.2))⟩, x4, x5, x6, x7, ⟨false, some (.int r.1)⟩, ⟨false, some (.int r.2)⟩, x10, x11], (by simp [rowD]; rfl), .inl ?_, ⟨false, some (.int r.1)⟩, ⟨false, some (.int r.2)⟩, (fun d h => by cases h; rfl), (fun d h => by cases h; rfl), rfl⟩
    simp [b_law_1, e1])
  rw [List.length_map, List.take_length] at h1
  exact ⟨x8, x9, f8, f9, h1⟩
theorem due_comp {Φ : Phi} {sc S : D} {B : Int} {rows : List (Int × Int)} {x4 x5 x6 x7 x8 x9 x10 x11 : Sl} (hR : ∀ r ∈ rows, Rw r) (hl : rows.length ≤ 18) (hB : 0 < B) (hB2 : B ≤ 10 ^ 60) (f8 : FzS x8) (f9 : FzS x9) :
    compE (evt Φ (.ex (.var 2))) (.tp [(.nm 8), (.nm 9)]) (evc Φ .no) (ev Φ (.bin .mul (.var 8) (.bin .div (.var 3) (.var 9)))) [8, 9] [⟨true, some sc⟩, ⟨false, some S⟩, ⟨false, some (.lst false (rows.map rowD))⟩, ⟨false, some (.int B)⟩, x4, x5, x6, x7, x8, x9, x10, x11]
      = some (.ok (.lst true ((rows.map fun r => r.1 * (B / r.2)).map D.int)) [⟨true, some sc⟩, ⟨false, some S⟩, ⟨false, some (.lst false (rows.map rowD))⟩, ⟨false, some (.int B)⟩, x4, x5, x6, x7, x8, x9, x10, x11]) := by
  have fR := rows_fz rows
  have ez2 : frz (.lst false (rows.map rowD)) = .lst false (rows.map rowD) := by
    show D.lst false (frzs (rows.map rowD)) = _
    rw [frzs_of_fzs _ fR]
  have ow : ownOk [⟨true, some sc⟩, ⟨false, some S⟩, ⟨false, some (.lst false (rows.map rowD))⟩, ⟨false, some (.int B)⟩, x4, x5, x6, x7, x8, x9, x10, x11] [8, 9] = true := by
    have h8 : (match x8.d with | some d => fz d | none => true) = true := by
      cases e : x8.d with
      | none => rfl
      | some d => exact f8 d e
    have h9 : (match x9.d with | some d => fz d | none => true) = true := by
      cases e : x9.d with
      | none => rfl
      | some d => exact f9 d e
    simp [ownOk]
    exact ⟨h8, h9⟩
  have := comp_pure (rt := evt Φ (.ex (.var 2))) (pt := .tp [(.nm 8), (.nm 9)]) (rc := evc Φ .no) (re := ev Φ (.bin .mul (.var 8) (.bin .div (.var 3) (.var 9)))) (own := [8, 9])
    (s := [⟨true, some sc⟩, ⟨false, some S⟩, ⟨false, some (.lst false (rows.map rowD))⟩, ⟨false, some (.int B)⟩, x4, x5, x6, x7, x8, x9, x10, x11]) (s1 := [⟨true, some sc⟩, ⟨false, some S⟩, ⟨false, some (.lst false (rows.map rowD))⟩, ⟨false, some (.int B)⟩, x4, x5, x6, x7, x8, x9, x10, x11]) (xs := rows.map rowD)
    (fun d => match d with | .tup [.int p, .int q] => some (.int (p * (B / q))) | _ => none) (by simp [fR, ez2, items]) ow (by simp; omega) (by
    intro x hx
    obtain ⟨r, hr, rfl⟩ := List.mem_map.mp hx
    have hw := hR r hr
    obtain ⟨s1, s2⟩ := hw.sp
    have e1 := bin_div (i := B) hw.q0 s2 (by decide)
    have sd : Sm 900 (B / r.2) := (Sm.num (10 ^ 60) (by omega) (by omega) (by decide) : Sm 900 B).div (by omega) hw.q0
    have e2 := bin_mul s1 sd (by decide) (by decide)
    refine ⟨[⟨true, some sc⟩, ⟨false, some S⟩, ⟨false, some (.lst false (rows.map rowD))⟩, ⟨false, some (.int B)⟩, x4, x5, x6, x7, ⟨false, some (.int r.1)⟩, ⟨false, some (.int r.2)⟩, x10, x11], ?_, by simp [wips, wip1]⟩
    show compF _ _ _ _ _ = some (.ok (some (.int (r.1 * (B / r.2)))) _)
    simp [compF, wips, wip1, rowD, e1, e2])
  rw [this]
  have e : (rows.map rowD).filterMap (fun d => match d with | .tup [.int p, .int q] => some (.int (p * (B / q))) | _ => none) = (rows.map fun r => r.1 * (B / r.2)).map D.int := by
    rw [List.filterMap_map, List.map_map]
    exact congrFun (List.filterMap_eq_map (f := D.int ∘ fun r : Int × Int => r.1 * (B / r.2))) rows
  rw [e]
  simp [wips, wip1, rsts, rst1]
theorem sel_go : ∀ (rows pre : List (Int × Int)), (List.range' pre.length rows.length).filterMap (fun j => (pre ++ rows)[j]?) = rows
  | [], pre => by simp
  | r :: rows, pre => by
    have ih := sel_go rows (pre ++ [r])
    rw [List.length_append, List.length_singleton, List.append_assoc] at ih
    rw [List.length_cons, List.range'_succ]
    have e : (pre ++ r :: rows)[pre.length]? = some r := by simp
    rw [List.filterMap_cons, e]
    show r :: _ = _
    congr 1
theorem sel_range (rows : List (Int × Int)) : sel rows (List.range rows.length) = rows := by
  have := sel_go rows []
  rw [List.range_eq_range']
  exact this
theorem tot_cons (B : Int) (r : Int × Int) (l : List (Int × Int)) : tot B (r :: l) = r.1 * (B / r.2) + tot B l := by simp [tot]
theorem tot_perm {B : Int} {a b : List (Int × Int)} (h : a.Perm b) : tot B a = tot B b := by
  induction h with
  | nil => rfl
  | cons x _ ih => rw [tot_cons, tot_cons, ih]
  | swap x y l => rw [tot_cons, tot_cons, tot_cons, tot_cons]; omega
  | trans _ _ h1 h2 => exact h1.trans h2
theorem sel_perm {rows : List (Int × Int)} {a b : List Nat} (h : a.Perm b) : (sel rows a).Perm (sel rows b) := h.filterMap _
theorem nums_at {ns : List Int} {m : Nat} (h : ns.Perm ((List.range m).map fun i : Nat => (i : Int))) : ∃ js : List Nat, ns.map D.int = js.map (fun j : Nat => D.int (j : Int)) ∧ js.Perm (List.range m) := by
  refine ⟨ns.map Int.toNat, ?_, ?_⟩
  · rw [List.map_map]
    apply List.map_congr_left
    intro n hn
    obtain ⟨i, _, e⟩ := List.mem_map.mp (h.mem_iff.mp hn)
    show D.int n = D.int ((n.toNat : Nat) : Int)
    rw [← e]
    rfl
  · have := h.map Int.toNat
    rw [List.map_map] at this
    have e : (List.range m).map (Int.toNat ∘ fun i : Nat => (i : Int)) = List.range m := by
      conv => rhs; rw [← List.map_id (List.range m)]
      apply List.map_congr_left
      intro i _
      rfl
    rwa [e] at this
/-- taken away one by one -/
theorem away_sp {n : Nat} {sc S : D} {B : Int} {rows : List (Int × Int)} {js : List Nat} {x3 x4 x6 x7 x8 x9 x10 x11 : Sl} (hR : ∀ r ∈ rows, Rw r) (hB : 0 < B) (hB2 : B ≤ 10 ^ 60) (hd : ∀ r ∈ rows, r.2 ∣ B) (hj : js.Perm (List.range rows.length)) (hl : rows.length ≤ 18) {it : VE.It} {Z : SS}
    (hit : evt (run PP FUEL (n + 4)) it Z = some (.ok (js.map fun j : Nat => D.int (j : Int)) [⟨true, some sc⟩, ⟨false, some S⟩, ⟨false, some (.lst false (rows.map rowD))⟩, x3, x4, ⟨false, some (redD (tot B rows) B)⟩, x6, x7, x8, x9, x10, x11])) : ∃ x6 : Sl,
    ex (run PP FUEL (n + 4)) FUEL (.fo (.nm 6) it b_law_2) Z = some (.nxt, [⟨true, some sc⟩, ⟨false, some S⟩, ⟨false, some (.lst false (rows.map rowD))⟩, x3, x4, ⟨false, some (.tup [.int 0, .int 1])⟩, x6, x7, x8, x9, x10, x11]) := by
  have hlen : js.length = rows.length := by rw [hj.length_eq]; simp
  have hall : tot B (sel rows js) = tot B rows := by rw [tot_perm (sel_perm hj), sel_range]
  have sB : Sm 900 B := Sm.num (10 ^ 60) (by omega) (by omega) (by decide)
  have hS : ∀ l, (∀ r ∈ sel rows l, Rw r) := fun l r hr => hR r (sel_mem hr)
  have hrest : ∀ i, 0 ≤ tot B rows - tot B (sel rows (js.take i)) ∧ tot B rows - tot B (sel rows (js.take i)) ≤ tot B rows := fun i => by
    have e : sel rows js = sel rows (js.take i) ++ sel rows (js.drop i) := by
      unfold sel
      rw [← List.filterMap_append, List.take_append_drop]
    have h1 := tot_nonneg hB (hS (js.drop i))
    have h2 := tot_nonneg hB (hS (js.take i))
    rw [← hall, e, tot_app]
    omega
  have hT := tot_le hB hR
  have sX : ∀ i, Sm 900 (tot B rows - tot B (sel rows (js.take i))) := fun i => by
    obtain ⟨h1, h2⟩ := hrest i
    have h4 : (rows.length : Int) * (1000 * B) ≤ 60 * (1000 * B) := Int.mul_le_mul_of_nonneg_right (by omega) (by omega)
    exact Sm.num (60 * 1000 * 10 ^ 60) h1 (by omega) (by decide)
  obtain ⟨s', h1, y6, rfl⟩ := fo_ix (Φ := run PP FUEL (n + 4)) (w := FUEL) (p := .nm 6) (it := it) (r := b_law_2) (xs := js.map fun j : Nat => D.int (j : Int))
    (fun i s => ∃ x6 : Sl, s = [⟨true, some sc⟩, ⟨false, some S⟩, ⟨false, some (.lst false (rows.map rowD))⟩, x3, x4, ⟨false, some (redD (tot B rows - tot B (sel rows (js.take i))) B)⟩, x6, x7, x8, x9, x10, x11]) hit
    ⟨x6, by
      have : tot B rows - tot B (sel rows (js.take 0)) = tot B rows := by simp [sel, tot]
      rw [this]⟩ (by
    rintro i x hx s ⟨z6, rfl⟩
    rw [List.getElem?_map] at hx
    obtain ⟨j, ej, rfl⟩ := map_some' hx
    have hj' : j < rows.length := List.mem_range.mp (hj.mem_iff.mp (List.mem_of_getElem? ej))
    have hr := hR rows[j] (List.getElem_mem hj')
    obtain ⟨s1, s2⟩ := hr.sp
    have e1 : tot B (sel rows (js.take (i + 1))) = tot B (sel rows (js.take i)) + rows[j].1 * (B / rows[j].2) := by
      rw [List.take_add_one, ej]
      have : sel rows (js.take i ++ [j]) = sel rows (js.take i) ++ [rows[j]] := by
        unfold sel
        rw [List.filterMap_append]
        simp [hj']
      show tot B (sel rows (js.take i ++ [j])) = _
      rw [this, tot_app]
      simp [tot]
    have e2 : tot B rows - tot B (sel rows (js.take (i + 1))) = tot B rows - tot B (sel rows (js.take i)) - rows[j].1 * (B / rows[j].2) := by omega
    have hn := (hrest (i + 1)).1
    rw [e2] at hn ⊢
    have h2 := less_red (n := n + 1) (X := tot B rows - tot B (sel rows (js.take i))) (B := B) (p := rows[j].1) (q := rows[j].2) hn (hrest i).1 hB (sX i) sB hr.p0 hr.q0 s1 s2 (hd _ (List.getElem_mem hj'))
    have h2' : run PP FUEL (n + 4) ix_less [redD (tot B rows - tot B (sel rows (js.take i))) B, rowD rows[j]] = _ := h2
    have g := fun s hs => rows_ix (rows := rows) (j := j) (i := 2) (o := false) (s := s) hs hj'
    refine ⟨_, _, bind_nm.trans (if_pos (by simp)), .inl ?_, ⟨false, some (.int (j : Int))⟩, rfl⟩
    simp [b_law_2, VE.callEnd, g, h2'])
  rw [List.length_map, List.take_length, hall, Int.sub_self] at h1
  have e0 : redD 0 B = .tup [.int 0, .int 1] := by
    show D.tup [.int (0 / Int.gcd 0 B), .int (B / Int.gcd 0 B)] = _
    rw [Int.gcd_zero_left]
    have : (B.natAbs : Int) = B := by omega
    rw [this, Int.ediv_self (by omega)]
    simp
  rw [e0] at h1
  exact ⟨y6, h1⟩
theorem cut_mem {xs : List D} {lo hi : Option Int} {d : D} (h : d ∈ cutD xs lo hi) : d ∈ xs := List.mem_of_mem_drop (List.mem_of_mem_take h)
theorem cut_len (xs : List D) (lo hi : Option Int) : (cutD xs lo hi).length ≤ xs.length := by
  unfold cutD
  rw [List.length_take, List.length_drop]
  omega
theorem less_law {r t : Int × Int} (hr : Rw r) (ht : Rw t) : ((if decide (r.1 * t.2 < t.1 * r.2) = true then (1 : Int) else 0) + (if decide (t.1 * r.2 < r.1 * t.2) = true then (1 : Int) else 0)) = (if (!(decide (r.1 = t.1) && decide (r.2 = t.2))) = true then (1 : Int) else 0) := by
  by_cases h : r.1 * t.2 = t.1 * r.2
  · obtain ⟨e1, e2⟩ := cop_uniq hr.q0 ht.q0 hr.cop ht.cop h
    simp [e1, e2]
  · have hn : ¬ (r.1 = t.1 ∧ r.2 = t.2) := fun ⟨e1, e2⟩ => h (by rw [e1, e2])
    have e3 : (decide (r.1 = t.1) && decide (r.2 = t.2)) = false := by
      cases e : (decide (r.1 = t.1) && decide (r.2 = t.2)) with
      | false => rfl
      | true => simp at e; exact absurd e hn
    rw [e3]
    by_cases h1 : r.1 * t.2 < t.1 * r.2
    · have h2 : ¬ t.1 * r.2 < r.1 * t.2 := by omega
      simp [h1, h2]
    · have h2 : t.1 * r.2 < r.1 * t.2 := by omega
      simp [h1, h2]
theorem zip_sp {n : Nat} {sc S : D} {rows : List (Int × Int)} {x3 x4 x5 x6 x7 x8 x9 x10 x11 : Sl} (hR : ∀ r ∈ rows, Rw r) (hl : rows.length ≤ 18) : ∃ z10 z11 : Sl,
    ex (run PP FUEL (n + 4)) FUEL (.fo (.tp [(.nm 10), (.nm 11)]) (.zip (.var 2) (.bin .add (.sl (.var 2) (.so (.lit (.int 1))) .no) (.sl (.var 2) .no (.so (.lit (.int 1)))))) b_law_3) [⟨true, some sc⟩, ⟨false, some S⟩, ⟨false, some (.lst false (rows.map rowD))⟩, x3, x4, x5, x6, x7, x8, x9, x10, x11]
      = some (.nxt, [⟨true, some sc⟩, ⟨false, some S⟩, ⟨false, some (.lst false (rows.map rowD))⟩, x3, x4, x5, x6, x7, x8, x9, z10, z11]) := by
  have fR := rows_fz rows
  have fc : ∀ lo hi, fzs (cutD (rows.map rowD) lo hi) = true := fun lo hi => fzs_of fun d hd => by
    obtain ⟨r, _, rfl⟩ := List.mem_map.mp (cut_mem hd)
    rfl
  have sl : ∀ lo hi, slop (.lst false (rows.map rowD)) lo hi = some (.lst true (cutD (rows.map rowD) lo hi)) := fun lo hi => if_pos fR
  have hc := bin_cat (o := true) (p := true) (fc (some 1) none) (fc none (some 1)) (by have := cut_len (rows.map rowD) (some 1) none; have := cut_len (rows.map rowD) none (some 1); simp at *; omega)
  have fa : fzs (cutD (rows.map rowD) (some 1) none ++ cutD (rows.map rowD) none (some 1)) = true := fzs_of fun d hd => by
    rcases List.mem_append.mp hd with h | h <;> (obtain ⟨r, _, rfl⟩ := List.mem_map.mp (cut_mem h); rfl)
  have e1 : frz (.lst false (rows.map rowD)) = .lst false (rows.map rowD) := by
    show D.lst false (frzs (rows.map rowD)) = _
    rw [frzs_of_fzs _ fR]
  have e2 : frz (.lst true (cutD (rows.map rowD) (some 1) none ++ cutD (rows.map rowD) none (some 1))) = .lst false (cutD (rows.map rowD) (some 1) none ++ cutD (rows.map rowD) none (some 1)) := by
    show D.lst false (frzs _) = _
    rw [frzs_of_fzs _ fa]
  obtain ⟨s', h1, y10, y11, rfl⟩ := fo_inv (Φ := run PP FUEL (n + 4)) (w := FUEL) (p := .tp [(.nm 10), (.nm 11)]) (it := .zip (.var 2) (.bin .add (.sl (.var 2) (.so (.lit (.int 1))) .no) (.sl (.var 2) .no (.so (.lit (.int 1)))))) (r := b_law_3)
    (xs := ((rows.map rowD).zip (cutD (rows.map rowD) (some 1) none ++ cutD (rows.map rowD) none (some 1))).map fun p => .tup [p.1, p.2])
    (s := [⟨true, some sc⟩, ⟨false, some S⟩, ⟨false, some (.lst false (rows.map rowD))⟩, x3, x4, x5, x6, x7, x8, x9, x10, x11]) (s1 := [⟨true, some sc⟩, ⟨false, some S⟩, ⟨false, some (.lst false (rows.map rowD))⟩, x3, x4, x5, x6, x7, x8, x9, x10, x11])
    (fun s => ∃ x10 x11 : Sl, s = [⟨true, some sc⟩, ⟨false, some S⟩, ⟨false, some (.lst false (rows.map rowD))⟩, x3, x4, x5, x6, x7, x8, x9, x10, x11])
    (by simp [fR, sl, hc, e1, e2, listItems]) ⟨_, _, rfl⟩ (by
    rintro x hx s ⟨z10, z11, rfl⟩
    obtain ⟨⟨d, e⟩, hp, rfl⟩ := List.mem_map.mp hx
    obtain ⟨hd, he⟩ := List.of_mem_zip hp
    obtain ⟨r, hr, rfl⟩ := List.mem_map.mp hd
    have he' : e ∈ rows.map rowD := by
      rcases List.mem_append.mp he with h | h <;> exact cut_mem h
    obtain ⟨t, ht, rfl⟩ := List.mem_map.mp he'
    have wr := hR r hr
    have wt := hR t ht
    have q1 := isless_sp (n := n + 3) (wr.sp.1.mono (show 900 ≤ 1000 by decide)) (wr.sp.2.mono (show 900 ≤ 1000 by decide)) (wt.sp.1.mono (show 900 ≤ 1000 by decide)) (wt.sp.2.mono (show 900 ≤ 1000 by decide))
    have q2 := isless_sp (n := n + 3) (wt.sp.1.mono (show 900 ≤ 1000 by decide)) (wt.sp.2.mono (show 900 ≤ 1000 by decide)) (wr.sp.1.mono (show 900 ≤ 1000 by decide)) (wr.sp.2.mono (show 900 ≤ 1000 by decide))
    have ll := less_law wr wt
    refine ⟨_, [⟨true, some sc⟩, ⟨false, some S⟩, ⟨false, some (.lst false (rows.map rowD))⟩, x3, x4, x5, x6, x7, x8, x9, ⟨false, some (.tup [.int r.1, .int r.2])⟩, ⟨false, some (.tup [.int t.1, .int t.2])⟩], (by simp [rowD]; rfl), .inl ?_, _, _, rfl⟩
    have ll2 : cmpop .ne (.int ((if decide (r.1 * t.2 < t.1 * r.2) = true then (1 : Int) else 0) + (if decide (t.1 * r.2 < r.1 * t.2) = true then (1 : Int) else 0))) (.int (if (!(decide (r.1 = t.1) && decide (r.2 = t.2))) = true then (1 : Int) else 0)) = some (.bl false) := by
      rw [cmp_neI, decide_eq_true ll]
      rfl
    simp [b_law_3, VE.callEnd, q1, q2, cmp_neD, -cmp_neI] at ll2 ⊢
    simp [ll2])
  exact ⟨y10, y11, h1⟩
theorem rng_nat (m : Nat) : rng 0 m = (List.range m).map fun j : Nat => D.int (j : Int) := by
  unfold rng
  apply List.map_congr_left
  intro j _
  rw [Int.zero_add]
theorem lrg_ok {Φ : Phi} {m : Nat} {e : E} {s s1 : SS} (h : ev Φ e s = some (.ok (.int (m : Int)) s1)) (hm : m ≤ 1000) : ev Φ (.lrg e) s = some (.ok (.lst true ((List.range m).map fun j : Nat => D.int (j : Int))) s1) := by
  have hB : okB (-(2 ^ 62) ≤ (m : Int) ∧ (m : Int) ≤ (LIM : Int)) = true := okB_iff.mpr ⟨by omega, by show (m : Int) ≤ 16777216; omega⟩
  rw [ev_lrg, h]
  show (if okB (-(2 ^ 62) ≤ (m : Int) ∧ (m : Int) ≤ (LIM : Int)) then some (O.ok (D.lst true (rng 0 ((m : Int).toNat))) s1) else none) = _
  rw [if_pos hB, Int.toNat_natCast, rng_nat]
theorem rep_flat (k : Nat) (r : Int × Int) : (List.replicate k [rowD r]).flatten = (List.replicate k r).map rowD := by
  induction k with
  | zero => rfl
  | succ k ih => simp [List.replicate_succ, ih]
theorem law_sp {n : Nat} {ns : List Int} : ∃ o, run PP FUEL (n + 5) ix_law [.lst false (ns.map D.int)] = some (.ret (.bl true) o) := by
  obtain ⟨S0, h1, hS0⟩ := stream_at (n := n + 3) (ns := ns) 0 0 rfl (by decide)
  have f0 := hS0.fz
  have fN := fzs_int ns
  obtain ⟨rows, S1, h2, hS1, hR, hl0, hl⟩ := row_sp (n := n) (sc := D.lst false (ns.map D.int)) (x2 := ⟨false, none⟩) (x3 := ⟨false, none⟩) (x4 := ⟨false, none⟩) (x5 := ⟨false, none⟩) (x7 := ⟨false, none⟩) (x8 := ⟨false, none⟩) (x9 := ⟨false, none⟩) (x10 := ⟨false, none⟩) (x11 := ⟨false, none⟩) hS0
  have f1 := hS1.fz
  have fR := rows_fz rows
  obtain ⟨x8, x9, f8, f9, h3⟩ := below_sp (n := n) (sc := D.lst false (ns.map D.int)) (S := S1) (x4 := ⟨false, none⟩) (x5 := ⟨false, none⟩) (x6 := ⟨false, none⟩) (x7 := ⟨false, none⟩) (x10 := ⟨false, none⟩) (x11 := ⟨false, none⟩) hR hl
  have hB := prd_pos hR
  have hB2 := prd_small hR hl
  have hd : ∀ r ∈ rows, r.2 ∣ prd rows := fun r hr => prd_dvd hr
  have h4 : ev (run PP FUEL (n + 4)) (.comp [8, 9] (.bin .mul (.var 8) (.bin .div (.var 3) (.var 9))) (.tp [(.nm 8), (.nm 9)]) (.ex (.var 2)) .no) _ = _ := due_comp (Φ := run PP FUEL (n + 4)) (sc := D.lst false (ns.map D.int)) (S := S1) (B := prd rows) (rows := rows) (x4 := ⟨false, none⟩) (x5 := ⟨false, none⟩) (x6 := ⟨false, none⟩) (x7 := ⟨false, none⟩) (x10 := ⟨false, none⟩) (x11 := ⟨false, none⟩) hR hl hB hB2 f8 f9
  have h5 : run PP FUEL (n + 4) ix__law_fraction [.int ((rows.map fun r => r.1 * (prd rows / r.2)).sum), .int (prd rows)] = some (.ret (redD (tot (prd rows) rows) (prd rows)) [some (.int ((rows.map fun r => r.1 * (prd rows / r.2)).sum)), some (.int (prd rows))]) :=
    fraction_sp (n := n + 3) (a := tot (prd rows) rows) (b := prd rows) (tot_nonneg hB hR) hB (Sm.num (10 ^ 60) (by omega) (by omega) (by decide))
  have h45 := prim_sum (o := true) (ns := rows.map fun r => r.1 * (prd rows / r.2))
  obtain ⟨S2, h6, hS2⟩ := stream_at (n := n + 3) (ns := ns) 1 1 rfl (by decide)
  have f2 := hS2.fz
  have hlr : ∀ s, VE.gt s 2 = some (D.lst false (rows.map rowD)) → ev (run PP FUEL (n + 4)) (.lrg (.prim .len (.cons (.var 2) .nil))) s = some (.ok (.lst true ((List.range rows.length).map fun j : Nat => D.int (j : Int))) s) := fun s hs => lrg_ok (by simp [hs]) (by omega)
  have h7 := summed_sp (n := n) (o := false) (o2 := true) (B := prd rows) (js := List.range rows.length) hR hB hB2 hd (fun j hj => List.mem_range.mp hj) (by simp; omega)
  rw [sel_range] at h7
  obtain ⟨n1, S3, h8, hS3, hp1⟩ := nums_sp (n := n + 2) (m := rows.length) hS2 (by omega)
  have f3 := hS3.fz
  obtain ⟨j1, ej1, pj1⟩ := nums_at hp1
  rw [ej1] at h8
  have h9 := summed_sp (n := n) (o := false) (o2 := true) (B := prd rows) (js := j1) hR hB hB2 hd (fun j hj => List.mem_range.mp (pj1.mem_iff.mp hj)) (by rw [pj1.length_eq]; simp; omega)
  rw [tot_perm (sel_perm pj1), sel_range] at h9
  obtain ⟨n2, S4, h10, hS4, hp2⟩ := nums_sp (n := n + 2) (m := rows.length) hS3 (by omega)
  have f4 := hS4.fz
  obtain ⟨j2, ej2, pj2⟩ := nums_at hp2
  rw [ej2] at h10
  have fJ2 : fzs (j2.map fun j : Nat => D.int (j : Int)) = true := fzs_of fun d hd => by
    obtain ⟨r, _, rfl⟩ := List.mem_map.mp hd
    rfl
  have ezJ : frz (.lst true (j2.map fun j : Nat => D.int (j : Int))) = .lst false (j2.map fun j : Nat => D.int (j : Int)) := by
    show D.lst false (frzs (j2.map fun j : Nat => D.int (j : Int))) = _
    rw [frzs_of_fzs _ fJ2]
  obtain ⟨y6, h11⟩ := away_sp (n := n) (sc := D.lst false (ns.map D.int)) (S := S4) (B := prd rows) (rows := rows) (js := j2) (x3 := ⟨false, some (.int (prd rows))⟩) (x4 := ⟨false, some (redD (tot (prd rows) rows) (prd rows))⟩) (x6 := ⟨false, none⟩) (x7 := ⟨false, none⟩) (x8 := x8) (x9 := x9) (x10 := ⟨false, none⟩) (x11 := ⟨false, none⟩) hR hB hB2 hd pj2 hl
    (it := .ex (.call ix__law_turned_numbers (.cons (.var 1) (.cons (.prim .len (.cons (.var 2) .nil)) .nil)))) (Z := [⟨true, some (D.lst false (ns.map D.int))⟩, ⟨false, some S3⟩, ⟨false, some (.lst false (rows.map rowD))⟩, ⟨false, some (.int (prd rows))⟩, ⟨false, some (redD (tot (prd rows) rows) (prd rows))⟩, ⟨false, some (redD (tot (prd rows) rows) (prd rows))⟩, ⟨false, none⟩, ⟨false, none⟩, x8, x9, ⟨false, none⟩, ⟨false, none⟩])
    (by simp [VE.callEnd, h10, f3, ezJ, items])
  obtain ⟨v, S5, h12, hS5, v0, v1⟩ := take_sp (n := n + 3) (m := 20) hS4 (by decide) (by decide)
  obtain ⟨k, rfl⟩ := Int.eq_ofNat_of_zero_le v0
  have f5 := hS5.fz
  obtain ⟨r0, hr0⟩ : ∃ r0, rows[0] = r0 := ⟨_, rfl⟩
  have w0 : Rw r0 := hr0 ▸ hR _ (List.getElem_mem hl0)
  have h13 : run PP FUEL (n + 4) ix_times [rowD r0, .int (k : Int)] = some (.ret (redD (r0.1 * k) r0.2) [some (rowD r0), some (.int (k : Int))]) := times_sp (n := n + 1) w0.p0 w0.q0 (by omega) (w0.sp.1.mono (by decide)) (w0.sp.2.mono (by decide)) (Sm.num 100 (by omega) (by omega) (by decide))
  have h14 := bin_rep (xs := [rowD r0]) (k := (k : Int)) rfl (by omega) (by omega) (by simp; omega)
  have e14 : (List.replicate ((k : Int)).toNat [rowD r0]).flatten = (List.replicate k r0).map rowD := by
    rw [Int.toNat_natCast]
    exact rep_flat k r0
  rw [e14] at h14
  have h15 := summed_sp (n := n) (o := true) (o2 := true) (B := r0.2) (rows := List.replicate k r0) (js := List.range k) (fun r hr => by rw [(List.mem_replicate.mp hr).2]; exact w0) w0.q0 (by have := w0.q1; omega) (fun r hr => by rw [(List.mem_replicate.mp hr).2]; exact Int.dvd_refl _) (fun j hj => by simpa using List.mem_range.mp hj) (by simp; omega)
  have e15 : tot r0.2 (sel (List.replicate k r0) (List.range k)) = r0.1 * k := by
    have := sel_range (List.replicate k r0)
    rw [List.length_replicate] at this
    rw [this]
    clear h12 h13 h14 e14 h15 this v0 v1
    induction k with
    | zero => simp [tot]
    | succ k ih =>
      rw [List.replicate_succ, tot_cons, ih, Int.ediv_self (by have := w0.q0; omega)]
      rw [Int.natCast_add, Int.mul_add]
      simp
      omega
  rw [e15] at h15
  have g0 : ∀ s, VE.gt s 2 = some (D.lst false (rows.map rowD)) → ixAll (.pl 2) (.int 0) s = some (.ok (rowD r0) s) := fun s hs => by rw [← hr0]; exact rows_ix (rows := rows) (j := 0) (i := 2) hs hl0
  have hlo : ∀ s, VE.gt s 7 = some (D.int (k : Int)) → ev (run PP FUEL (n + 4)) (.lrg (.var 7)) s = some (.ok (.lst true ((List.range k).map fun j : Nat => D.int (j : Int))) s) := fun s hs => lrg_ok (by simp [hs]) (by omega)
  obtain ⟨y10, y11, h16⟩ := zip_sp (n := n) (sc := D.lst false (ns.map D.int)) (S := S5) (rows := rows) (x3 := ⟨false, some (.int (prd rows))⟩) (x4 := ⟨false, some (redD (tot (prd rows) rows) (prd rows))⟩) (x5 := ⟨false, some (.tup [.int 0, .int 1])⟩) (x6 := y6) (x7 := ⟨false, some (.int (k : Int))⟩) (x8 := x8) (x9 := x9) (x10 := ⟨false, none⟩) (x11 := ⟨false, none⟩) hR hl
  have fr0 : fz (rowD r0) = true := rfl
  refine ⟨[some (.lst false (ns.map D.int))], ?_⟩
  have hst : run PP FUEL (n + 5) ix_law [.lst false (ns.map D.int)] = fin 1 (exs (run PP FUEL (n + 4)) FUEL b_law [⟨true, some (.lst false (ns.map D.int))⟩, ⟨false, none⟩, ⟨false, none⟩, ⟨false, none⟩, ⟨false, none⟩, ⟨false, none⟩, ⟨false, none⟩, ⟨false, none⟩, ⟨false, none⟩, ⟨false, none⟩, ⟨false, none⟩, ⟨false, none⟩]) := by
    rw [run_succ (fn := fn_law) rfl]
    rfl
  rw [hst]
  simp [b_law, VE.callEnd, fN, h1, h2, f0, f1, h3, h4, h45, h5, h6, f2, hlr, h7, h8, f3, h9, h11, h12, f4, h13, h14, h15, g0, hlo, h16, fR, fr0, f5, cmp_neD, -ex_fo, -ev_comp, -ev_lrg, -List.map_map, -List.map_cons, -List.map_replicate]
end WK
theorem PURE : ∀ ns : List Int, ns.length ≤ 63 → ∃ o, VE.run WK.PP WK.FUEL 12 WK.ix_law [.lst false (ns.map VE.D.int)] = some (.ret (.bl true) o) := fun ns _ => WK.law_sp (n := 7)

open PySem PySem.W PyProof.Rows
set_option maxHeartbeats 0 in
theorem PySem.Challenge.cw_cartways_k03_whole_lengths_holds : PySem.Challenge.rw_cartways_k03_whole_lengths.Holds := by
  w_on; o_law; k_head; (case hw => w_witness2)
  k_fill
  refine L2.walk_of (l := PySem.Challenge.rw_cartways_k03_whole_lengths) (n := 63) (k := 13) (x := "_law_script") (CX := fun w => L2.CX PySem.Challenge.pw_cartways_k03_whole_lengths w) (sp := fun w => VE.spLaw _ 63) rfl (by decide) rfl ⟨rfl, by decide, by decide⟩ (fun w h Y => PySem.W.kIn_of Y) ?F (fun _ _ a ns hl _ hS => ⟨a, ns, rfl, hS, hl, fun _ => rfl⟩) (fun _ _ _ _ _ h => by obtain ⟨_, _, _, _, _, _, _, _, _, _, _, _, z⟩ := h; exact z)
  case F =>
    intro w mg fa h KX G hmg
    refine' WK.all_mk KX G hmg ?a0 ?l0 ?c0 ?k0 ?a1 ?l1 ?c1 ?k1 ?a2 ?l2 ?c2 ?k2 ?a3 ?l3 ?c3 ?k3 ?a4 ?l4 ?c4 ?k4 ?a5 ?l5 ?c5 ?k5 ?a6 ?l6 ?c6 ?k6 ?a7 ?l7 ?c7 ?k7 ?a8 ?l8 ?c8 ?k8 ?a9 ?l9 ?c9 ?k9 ?a10 ?l10 ?c10 ?k10 ?a11 ?l11 ?c11 ?k11 ?a12 ?l12 ?c12 ?k12 ?z_abs ?z_bool ?z_int ?z_isinstance ?z_len ?z_list ?z_range ?z_sum ?z_zip ?nl PURE
    (case a0 => k_is)
    (case l0 => k_is)
    (case c0 => k_is)
    (case k0 => k_is)
    (case a1 => k_is)
    (case l1 => k_is)
    (case c1 => k_is)
    (case k1 => k_is)
    (case a2 => k_is)
    (case l2 => k_is)
    (case c2 => k_is)
    (case k2 => k_is)
    (case a3 => k_is)
    (case l3 => k_is)
    (case c3 => k_is)
    (case k3 => k_is)
    (case a4 => k_is)
    (case l4 => k_is)
    (case c4 => k_is)
    (case k4 => k_is)
    (case a5 => k_is)
    (case l5 => k_is)
    (case c5 => k_is)
    (case k5 => k_is)
    (case a6 => k_is)
    (case l6 => k_is)
    (case c6 => k_is)
    (case k6 => k_is)
    (case a7 => k_is)
    (case l7 => k_is)
    (case c7 => k_is)
    (case k7 => k_is)
    (case a8 => k_is)
    (case l8 => k_is)
    (case c8 => k_is)
    (case k8 => k_is)
    (case a9 => k_is)
    (case l9 => k_is)
    (case c9 => k_is)
    (case k9 => k_is)
    (case a10 => k_is)
    (case l10 => k_is)
    (case c10 => k_is)
    (case k10 => k_is)
    (case a11 => k_is)
    (case l11 => k_is)
    (case c11 => k_is)
    (case k11 => k_is)
    (case a12 => k_is)
    (case l12 => k_is)
    (case c12 => k_is)
    (case k12 => k_is)
    (case z_abs => k_is)
    (case z_bool => k_is)
    (case z_int => k_is)
    (case z_isinstance => k_is)
    (case z_len => k_is)
    (case z_list => k_is)
    (case z_range => k_is)
    (case z_sum => k_is)
    (case z_zip => k_is)
    (case nl => rfl)
