import PyProof.Rows.All
import Wide.All
import OpenK.AllK
import Wide.FinOn
import HandS.ForMost
import HandS.Strs
import KE.SortData
import KE.GoesMore
import HandS.Defaults
import KE.KStateDown
import HandS.Head0
import HandS.Head1
import HandS.Head2
import HandS.HeadEnd
import HandS.HeadHook1
import HandS.HeadHook2
import HandS.IsInst
import HandS.Deep
import HandS.Conv
import HandS.TupAny
import PySem.Challenge.RW_loopstore_k09_whole_clashes_by_own_look
/-! The plain law: what the program and the law's own look reckon, in plain Lean. -/
namespace K9
/-- an entry: loop, gone, left -/
abbrev Ent := Int × Int × Int
abbrev Pr := Ent × Ent
theorem takeS {α : Type} : ∀ {l : List α} {i : Nat} {x : α}, l[i]? = some x → l.take (i + 1) = l.take i ++ [x]
  | [], _, _, h => by simp at h
  | a :: l, 0, x, h => by
    have e : a = x := Option.some.inj h
    rw [e]
    rfl
  | a :: l, i + 1, x, h => by
    have q := takeS (l := l) (i := i) (x := x) h
    show a :: l.take (i + 1) = a :: l.take i ++ [x]
    rw [q]
    rfl
theorem foldS {α β : Type} (f : β → α → β) (b : β) {l : List α} {i : Nat} {x : α} (h : l[i]? = some x) : (l.take (i + 1)).foldl f b = f ((l.take i).foldl f b) x := by
  rw [takeS h, List.foldl_append]
  rfl
/-! ### rows and their entries -/
def len (ls : List Int) (k : Int) : Int := ls.getD k.toNat 0
def sumOf (ls row : List Int) : Int := (row.map (len ls)).sum
def estep (ls : List Int) (t : Int) (s : Int × List Ent) (k : Int) : Int × List Ent := (s.1 + len ls k, s.2 ++ [(k, s.1, t - s.1)])
def efold (ls : List Int) (t : Int) (row : List Int) : Int × List Ent := row.foldl (estep ls t) (0, [])
def ents (ls row : List Int) : List Ent := (efold ls (sumOf ls row) row).2
theorem efold_len (ls : List Int) (t : Int) : ∀ (row : List Int) (s : Int × List Ent), (row.foldl (estep ls t) s).2.length = s.2.length + row.length
  | [], s => by simp
  | k :: r, s => by
    rw [List.foldl_cons, efold_len ls t r]
    simp [estep]
    omega
theorem ents_len (ls row : List Int) : (ents ls row).length = row.length := by
  unfold ents efold
  rw [efold_len]
  simp
theorem efold_take_len (ls : List Int) (t : Int) (row : List Int) (i : Nat) : (efold ls t (row.take i)).2.length ≤ i := by
  unfold efold
  rw [efold_len]
  simp
  omega
theorem sum_snoc (l : List Int) (x : Int) : (l ++ [x]).sum = l.sum + x := by simp
theorem sumOf_snoc (ls row : List Int) (k : Int) : sumOf ls (row ++ [k]) = sumOf ls row + len ls k := by
  unfold sumOf
  rw [List.map_append, List.map_cons, List.map_nil, sum_snoc]
def allE (ls : List Int) (rws : List (List Int)) : List Ent := (rws.map (ents ls)).flatten
/-- what a row must be to stand at a wait -/
structure RowOk (ls : List Int) (wait : Int) (row : List Int) : Prop where
  len : row.length ≤ 60
  rng : ∀ k ∈ row, 0 ≤ k ∧ k < ls.length
  sum : sumOf ls row = wait
structure LoopsOk (ls : List Int) : Prop where
  len : ls.length ≤ 8
  pos : 0 < ls.length
  rng : ∀ x ∈ ls, 1 ≤ x ∧ x ≤ 40
  one : (1 : Int) ∈ ls
structure RowsOk (ls : List Int) (rws : List (List Int)) : Prop where
  pos : 0 < rws.length
  len : rws.length ≤ 60
  row : ∀ (i : Nat) (r : List Int), rws[i]? = some r → RowOk ls ((i : Int) + 1) r
theorem flat_len {α : Type} (m : Nat) : ∀ (l : List (List α)), (∀ x ∈ l, x.length ≤ m) → l.flatten.length ≤ l.length * m
  | [], _ => by simp
  | x :: l, h => by
    have q := flat_len m l fun y hy => h y (List.mem_cons_of_mem _ hy)
    have p := h x List.mem_cons_self
    rw [List.flatten_cons, List.length_append, List.length_cons, Nat.succ_mul]
    omega
theorem allE_len {ls : List Int} {rws : List (List Int)} (h : RowsOk ls rws) : (allE ls rws).length ≤ 3600 := by
  have q := flat_len 60 (rws.map (ents ls)) fun x hx => by
    obtain ⟨r, hr, rfl⟩ := List.mem_map.mp hx
    obtain ⟨i, hi⟩ := List.getElem?_of_mem hr
    rw [ents_len]
    exact (h.row i r hi).len
  rw [List.length_map] at q
  have := h.len
  unfold allE
  omega
/-! ### clashes -/
def clB (c : Int) (a b : Ent) : Bool := decide (a.1 = b.1 ∧ a.2.2 < b.2.2 ∧ b.2.1 ≤ a.2.1 ∧ b.2.2 - a.2.2 ≤ c * (a.2.1 - b.2.1) + c - 1)
theorem clB_mono {c d : Int} (h : c ≤ d) {a b : Ent} (q : clB c a b = true) : clB d a b = true := by
  unfold clB at q ⊢
  have q := of_decide_eq_true q
  refine decide_eq_true ⟨q.1, q.2.1, q.2.2.1, ?_⟩
  have h1 := q.2.2.2
  have h2 := q.2.2.1
  have m : c * (a.2.1 - b.2.1) ≤ d * (a.2.1 - b.2.1) := Int.mul_le_mul_of_nonneg_right h (by omega)
  omega
def Cl (E : List Ent) (c : Int) (p : Pr) : Prop := p.1 ∈ E ∧ p.2 ∈ E ∧ clB c p.1 p.2 = true
/-- what the program appends -/
def pStep (c : Int) (a : Ent) (f : List Pr) (b : Ent) : List Pr := if clB c a b = true then f ++ [(a, b)] else f
/-- what the law appends -/
def lStep (c : Int) (a : Ent) (f : List Pr) (b : Ent) : List Pr := if clB c a b = true ∧ (a, b) ∉ f then f ++ [(a, b)] else f
def inn (st : Ent → List Pr → Ent → List Pr) (E : List Ent) (f : List Pr) (a : Ent) : List Pr := E.foldl (st a) f
def out (st : Ent → List Pr → Ent → List Pr) (E F : List Ent) : List Pr := F.foldl (inn st E) []
theorem pStep_len (c : Int) (a : Ent) (f : List Pr) (b : Ent) : (pStep c a f b).length ≤ f.length + 1 := by
  unfold pStep
  split <;> simp
theorem lStep_len (c : Int) (a : Ent) (f : List Pr) (b : Ent) : (lStep c a f b).length ≤ f.length + 1 := by
  unfold lStep
  split <;> simp
theorem inn_len {st : Ent → List Pr → Ent → List Pr} (h : ∀ a f b, (st a f b).length ≤ f.length + 1) (a : Ent) : ∀ (E : List Ent) (f : List Pr), (E.foldl (st a) f).length ≤ f.length + E.length
  | [], f => by simp
  | b :: E, f => by
    have q := inn_len h a E (st a f b)
    have p := h a f b
    rw [List.foldl_cons, List.length_cons]
    omega
theorem out_len {st : Ent → List Pr → Ent → List Pr} (h : ∀ a f b, (st a f b).length ≤ f.length + 1) (E : List Ent) : ∀ (F : List Ent) (f : List Pr), (F.foldl (inn st E) f).length ≤ f.length + F.length * E.length
  | [], f => by simp
  | a :: F, f => by
    have q := out_len h E F (inn st E f a)
    have p : (inn st E f a).length ≤ f.length + E.length := inn_len h a E f
    rw [List.foldl_cons, List.length_cons, Nat.succ_mul]
    omega
/-- the list is short enough at each turn -/
theorem at_len {st : Ent → List Pr → Ent → List Pr} (h : ∀ a f b, (st a f b).length ≤ f.length + 1) {E : List Ent} (hE : E.length ≤ 3600) {i j : Nat} (hi : i < E.length) (hj : j < E.length) (a : Ent) :
    ((E.take j).foldl (st a) (out st E (E.take i))).length < 16777216 := by
  have q1 := inn_len h a (E.take j) (out st E (E.take i))
  have q2 : (out st E (E.take i)).length ≤ ([] : List Pr).length + (E.take i).length * E.length := out_len h E (E.take i) []
  rw [List.length_nil, List.length_take, Nat.min_eq_left (Nat.le_of_lt hi)] at q2
  rw [List.length_take, Nat.min_eq_left (Nat.le_of_lt hj)] at q1
  have q3 : i * E.length ≤ 3599 * 3600 := Nat.mul_le_mul (by omega) hE
  omega
theorem out_all_len {st : Ent → List Pr → Ent → List Pr} (h : ∀ a f b, (st a f b).length ≤ f.length + 1) {E : List Ent} (hE : E.length ≤ 3600) : (out st E E).length ≤ 12960000 := by
  have q2 : (out st E E).length ≤ ([] : List Pr).length + E.length * E.length := out_len h E E []
  have q3 : E.length * E.length ≤ 3600 * 3600 := Nat.mul_le_mul hE hE
  rw [List.length_nil] at q2
  omega
/-! what they hold -/
theorem lInn (c : Int) (a : Ent) : ∀ (E : List Ent) (f : List Pr), f.Nodup → (E.foldl (lStep c a) f).Nodup ∧ ∀ p, p ∈ E.foldl (lStep c a) f ↔ p ∈ f ∨ (p.1 = a ∧ p.2 ∈ E ∧ clB c p.1 p.2 = true)
  | [], f, hf => ⟨hf, fun p => by simp⟩
  | b :: E, f, hf => by
    have nd : (lStep c a f b).Nodup := by
      unfold lStep
      split
      · rename_i h
        refine List.nodup_append.mpr ⟨hf, by simp, fun x hx y hy e => ?_⟩
        rw [List.mem_singleton] at hy
        exact h.2 (hy ▸ e ▸ hx)
      · exact hf
    have mm : ∀ p, p ∈ lStep c a f b ↔ p ∈ f ∨ (p = (a, b) ∧ clB c a b = true) := fun p => by
      unfold lStep
      split
      · rename_i h
        rw [List.mem_append, List.mem_singleton]
        exact ⟨fun q => q.imp id fun q => ⟨q, h.1⟩, fun q => q.imp id fun q => q.1⟩
      · rename_i h
        refine ⟨.inl, fun q => q.elim id fun ⟨e, hc⟩ => ?_⟩
        exact Classical.byContradiction fun hn => h ⟨hc, e ▸ hn⟩
    obtain ⟨h1, h2⟩ := lInn c a E _ nd
    refine ⟨h1, fun p => ?_⟩
    rw [List.foldl_cons, h2, mm, List.mem_cons]
    constructor
    · rintro ((h | ⟨rfl, h⟩) | ⟨h3, h4, h5⟩)
      · exact .inl h
      · exact .inr ⟨rfl, .inl rfl, h⟩
      · exact .inr ⟨h3, .inr h4, h5⟩
    · rintro (h | ⟨h3, h4 | h4, h5⟩)
      · exact .inl (.inl h)
      · refine .inl (.inr ⟨Prod.ext h3 h4, ?_⟩)
        rw [h3, h4] at h5
        exact h5
      · exact .inr ⟨h3, h4, h5⟩
theorem lOut (c : Int) (E : List Ent) : ∀ (F : List Ent) (f : List Pr), f.Nodup → (F.foldl (inn (lStep c) E) f).Nodup ∧ ∀ p, p ∈ F.foldl (inn (lStep c) E) f ↔ p ∈ f ∨ (p.1 ∈ F ∧ p.2 ∈ E ∧ clB c p.1 p.2 = true)
  | [], f, hf => ⟨hf, fun p => by simp⟩
  | a :: F, f, hf => by
    obtain ⟨n1, m1⟩ := lInn c a E f hf
    obtain ⟨n2, m2⟩ := lOut c E F (inn (lStep c) E f a) n1
    refine ⟨n2, fun p => ?_⟩
    rw [List.foldl_cons, m2]
    have q : p ∈ inn (lStep c) E f a ↔ p ∈ f ∨ (p.1 = a ∧ p.2 ∈ E ∧ clB c p.1 p.2 = true) := m1 p
    rw [q, List.mem_cons]
    constructor
    · rintro ((h | ⟨h, h'⟩) | ⟨h, h'⟩)
      · exact .inl h
      · exact .inr ⟨.inl h, h'⟩
      · exact .inr ⟨.inr h, h'⟩
    · rintro (h | ⟨h | h, h'⟩)
      · exact .inl (.inl h)
      · exact .inl (.inr ⟨h, h'⟩)
      · exact .inr ⟨h, h'⟩
theorem pInn (c : Int) (a : Ent) : ∀ (E : List Ent) (f : List Pr), E.Nodup → f.Nodup → (∀ b ∈ E, (a, b) ∉ f) → (E.foldl (pStep c a) f).Nodup ∧ ∀ p, p ∈ E.foldl (pStep c a) f ↔ p ∈ f ∨ (p.1 = a ∧ p.2 ∈ E ∧ clB c p.1 p.2 = true)
  | [], f, _, hf, _ => ⟨hf, fun p => by simp⟩
  | b :: E, f, hE, hf, hn => by
    have nb := (List.nodup_cons.mp hE).1
    have mm : ∀ p, p ∈ pStep c a f b ↔ p ∈ f ∨ (p = (a, b) ∧ clB c a b = true) := fun p => by
      unfold pStep
      split
      · rename_i h
        rw [List.mem_append, List.mem_singleton]
        exact ⟨fun q => q.imp id fun q => ⟨q, h⟩, fun q => q.imp id fun q => q.1⟩
      · rename_i h
        exact ⟨.inl, fun q => q.elim id fun ⟨_, hc⟩ => absurd hc h⟩
    have nd : (pStep c a f b).Nodup := by
      unfold pStep
      split
      · refine List.nodup_append.mpr ⟨hf, by simp, fun x hx y hy e => ?_⟩
        rw [List.mem_singleton] at hy
        exact hn b List.mem_cons_self (hy ▸ e ▸ hx)
      · exact hf
    have nn : ∀ b' ∈ E, (a, b') ∉ pStep c a f b := fun b' hb' q => by
      rcases (mm _).mp q with q | ⟨q, _⟩
      · exact hn b' (List.mem_cons_of_mem _ hb') q
      · have e : b' = b := congrArg Prod.snd q
        exact nb (e ▸ hb')
    obtain ⟨h1, h2⟩ := pInn c a E _ (List.nodup_cons.mp hE).2 nd nn
    refine ⟨h1, fun p => ?_⟩
    rw [List.foldl_cons, h2, mm, List.mem_cons]
    constructor
    · rintro ((h | ⟨rfl, h⟩) | ⟨h3, h4, h5⟩)
      · exact .inl h
      · exact .inr ⟨rfl, .inl rfl, h⟩
      · exact .inr ⟨h3, .inr h4, h5⟩
    · rintro (h | ⟨h3, h4 | h4, h5⟩)
      · exact .inl (.inl h)
      · refine .inl (.inr ⟨Prod.ext h3 h4, ?_⟩)
        rw [h3, h4] at h5
        exact h5
      · exact .inr ⟨h3, h4, h5⟩
theorem pOut (c : Int) (E : List Ent) (hE : E.Nodup) : ∀ (F : List Ent) (f : List Pr), F.Nodup → f.Nodup → (∀ a ∈ F, ∀ b, (a, b) ∉ f) → (F.foldl (inn (pStep c) E) f).Nodup ∧ ∀ p, p ∈ F.foldl (inn (pStep c) E) f ↔ p ∈ f ∨ (p.1 ∈ F ∧ p.2 ∈ E ∧ clB c p.1 p.2 = true)
  | [], f, _, hf, _ => ⟨hf, fun p => by simp⟩
  | a :: F, f, hF, hf, hn => by
    have na := (List.nodup_cons.mp hF).1
    obtain ⟨n1, m1⟩ := pInn c a E f hE hf fun b _ => hn a List.mem_cons_self b
    obtain ⟨n2, m2⟩ := pOut c E hE F (inn (pStep c) E f a) (List.nodup_cons.mp hF).2 n1 fun a' ha' b q => by
      rcases (m1 _).mp q with q | ⟨q, _⟩
      · exact hn a' (List.mem_cons_of_mem _ ha') b q
      · have e : a' = a := q
        exact na (e ▸ ha')
    refine ⟨n2, fun p => ?_⟩
    rw [List.foldl_cons, m2]
    have q : p ∈ inn (pStep c) E f a ↔ p ∈ f ∨ (p.1 = a ∧ p.2 ∈ E ∧ clB c p.1 p.2 = true) := m1 p
    rw [q, List.mem_cons]
    constructor
    · rintro ((h | ⟨h, h'⟩) | ⟨h, h'⟩)
      · exact .inl h
      · exact .inr ⟨.inl h, h'⟩
      · exact .inr ⟨.inr h, h'⟩
    · rintro (h | ⟨h | h, h'⟩)
      · exact .inl (.inl h)
      · exact .inl (.inr ⟨h, h'⟩)
      · exact .inr ⟨h, h'⟩
theorem lAll (c : Int) (E : List Ent) : (out (lStep c) E E).Nodup ∧ ∀ p, p ∈ out (lStep c) E E ↔ Cl E c p := by
  obtain ⟨h1, h2⟩ := lOut c E E [] List.nodup_nil
  exact ⟨h1, fun p => (h2 p).trans ⟨fun q => q.elim (fun z => absurd z (by simp)) id, .inr⟩⟩
theorem pAll (c : Int) {E : List Ent} (hE : E.Nodup) : (out (pStep c) E E).Nodup ∧ ∀ p, p ∈ out (pStep c) E E ↔ Cl E c p := by
  obtain ⟨h1, h2⟩ := pOut c E hE E [] hE List.nodup_nil fun _ _ _ => by simp
  exact ⟨h1, fun p => (h2 p).trans ⟨fun q => q.elim (fun z => absurd z (by simp)) id, .inr⟩⟩
/-- the ascending list of just the clashes; le any order -/
structure IsCl (le : Pr → Pr → Bool) (E : List Ent) (c : Int) (ps : List Pr) : Prop where
  asc : ps.Pairwise fun a b => le a b = true
  nd : ps.Nodup
  mem : ∀ p, p ∈ ps ↔ Cl E c p
theorem IsCl.one {le : Pr → Pr → Bool} (anti : ∀ a b, le a b = true → le b a = true → a = b) {E E' : List Ent} (hE : ∀ e, e ∈ E ↔ e ∈ E') {c : Int} {ps qs : List Pr} (h : IsCl le E c ps) (h' : IsCl le E' c qs) : ps = qs := by
  have hp : ps.Perm qs := (List.perm_ext_iff_of_nodup h.nd h'.nd).mpr fun p => by
    rw [h.mem, h'.mem]
    unfold Cl
    rw [hE, hE]
  exact hp.eq_of_pairwise (fun a b _ _ h1 h2 => anti a b h1 h2) h.asc h'.asc
theorem IsCl.sort {le : Pr → Pr → Bool} {E : List Ent} {c : Int} {fs ps : List Pr} (asc : ps.Pairwise fun a b => le a b = true) (hp : ps.Perm fs) (h : fs.Nodup ∧ ∀ p, p ∈ fs ↔ Cl E c p) : IsCl le E c ps :=
  ⟨asc, hp.nodup_iff.mpr h.1, fun p => hp.mem_iff.trans (h.2 p)⟩
theorem Cl.mono {E : List Ent} {c d : Int} (h : c ≤ d) {p : Pr} (q : Cl E c p) : Cl E d p := ⟨q.1, q.2.1, clB_mono h q.2.2⟩
theorem Cl.sub {E E' : List Ent} (h : ∀ e ∈ E, e ∈ E') {c : Int} {p : Pr} (q : Cl E c p) : Cl E' c p := ⟨h _ q.1, h _ q.2.1, q.2.2⟩
theorem Cl.same {E E' : List Ent} (h : ∀ e, e ∈ E ↔ e ∈ E') {c : Int} {p : Pr} : Cl E c p ↔ Cl E' c p := by
  unfold Cl
  rw [h, h]
theorem allE_take {ls : List Int} {rws : List (List Int)} {k : Nat} : ∀ e ∈ allE ls (rws.take k), e ∈ allE ls rws := fun e he => by
  unfold allE at he ⊢
  obtain ⟨l, hl, hel⟩ := List.mem_flatten.mp he
  obtain ⟨r, hr, rfl⟩ := List.mem_map.mp hl
  exact List.mem_flatten.mpr ⟨_, List.mem_map.mpr ⟨r, List.mem_of_mem_take hr, rfl⟩, hel⟩
theorem RowsOk.take {ls : List Int} {rws : List (List Int)} (h : RowsOk ls rws) {k : Nat} (hk : 0 < k) : RowsOk ls (rws.take k) := by
  have hp := h.pos
  have hl := h.len
  refine ⟨by rw [List.length_take]; omega, by rw [List.length_take]; omega, fun i r hi => h.row i r ?_⟩
  rw [List.getElem?_take] at hi
  split at hi
  · exact hi
  · cases hi
end K9

/-! The entries, each once. -/
namespace K9
def dStep (s : List Ent) (e : Ent) : List Ent := if e ∈ s then s else s ++ [e]
def dd (l : List Ent) : List Ent := l.foldl dStep []
theorem dd_snoc (l : List Ent) (e : Ent) : dd (l ++ [e]) = dStep (dd l) e := by
  unfold dd
  rw [List.foldl_append]
  rfl
theorem dStep_nd {s : List Ent} {e : Ent} (h : s.Nodup) : (dStep s e).Nodup := by
  unfold dStep
  split
  · exact h
  · rename_i hn
    refine List.nodup_append.mpr ⟨h, by simp, fun x hx y hy z => ?_⟩
    rw [List.mem_singleton] at hy
    exact hn (hy ▸ z ▸ hx)
theorem dStep_mem {s : List Ent} {e x : Ent} : x ∈ dStep s e ↔ x ∈ s ∨ x = e := by
  unfold dStep
  split
  · rename_i h
    exact ⟨.inl, fun q => q.elim id fun z => z ▸ h⟩
  · rw [List.mem_append, List.mem_singleton]
theorem dStep_len (s : List Ent) (e : Ent) : (dStep s e).length ≤ s.length + 1 := by
  unfold dStep
  split <;> simp
theorem dd_from : ∀ (l s : List Ent), s.Nodup → (l.foldl dStep s).Nodup ∧ (∀ x, x ∈ l.foldl dStep s ↔ x ∈ s ∨ x ∈ l) ∧ (l.foldl dStep s).length ≤ s.length + l.length
  | [], s, h => ⟨h, fun x => by simp, by simp⟩
  | e :: l, s, h => by
    obtain ⟨h1, h2, h3⟩ := dd_from l (dStep s e) (dStep_nd h)
    refine ⟨h1, fun x => ?_, ?_⟩
    · rw [List.foldl_cons, h2, dStep_mem, List.mem_cons, or_assoc]
    · have := dStep_len s e
      rw [List.foldl_cons, List.length_cons]
      omega
theorem dd_nd (l : List Ent) : (dd l).Nodup := (dd_from l [] List.nodup_nil).1
theorem dd_mem (l : List Ent) (x : Ent) : x ∈ dd l ↔ x ∈ l := ((dd_from l [] List.nodup_nil).2.1 x).trans ⟨fun q => q.elim (fun z => absurd z (by simp)) id, .inr⟩
theorem dd_len (l : List Ent) : (dd l).length ≤ l.length := by
  have q := (dd_from l [] List.nodup_nil).2.2
  rw [List.length_nil] at q
  unfold dd
  omega
theorem allE_snoc (ls : List Int) {rws : List (List Int)} {i : Nat} {r : List Int} (h : rws[i]? = some r) : allE ls (rws.take (i + 1)) = allE ls (rws.take i) ++ ents ls r := by
  unfold allE
  rw [takeS h, List.map_append, List.flatten_append]
  simp
theorem allE_take_len {ls : List Int} {rws : List (List Int)} (h : RowsOk ls rws) (i : Nat) : (allE ls (rws.take i)).length ≤ 3600 := by
  by_cases hi : 0 < i
  · exact allE_len (h.take hi)
  · have e : i = 0 := by omega
    rw [e, List.take_zero]
    show (0 : Nat) ≤ 3600
    omega
end K9

set_option Elab.async false
set_option linter.all false
set_option maxRecDepth 100000
set_option maxHeartbeats 2000000
/-! Three rules that the layer lacks: sorted of nested tuples, tuple.index of ints, enumerate of a tuple. -/
namespace K9
open PySem PySem.Spec PyProof.Rows L2
/-! ### sorted -/
theorem vals_each {β : Type} {T : V → β → Prop} : ∀ {xs : List V} {us : List Value} {bs : List β}, Vals xs us → PySem.W.EachIs T xs bs → PySem.W.EachIs (fun u b => ∃ x, RelV x u ∧ T x b) us bs
  | _, _, _, .nil, .nil => .nil
  | _, _, _, .cons r t, .cons h k => .cons ⟨_, r, h⟩ (vals_each t k)
theorem each_vals {β : Type} {T : V → β → Prop} : ∀ {us : List Value} {bs : List β}, PySem.W.EachIs (fun u b => ∃ x, RelV x u ∧ T x b) us bs → ∃ xs, Vals xs us ∧ PySem.W.EachIs T xs bs
  | _, _, .nil => ⟨[], .nil, .nil⟩
  | _, _, .cons ⟨x, r, h⟩ k => by
    obtain ⟨xs, r1, k1⟩ := each_vals k
    exact ⟨x :: xs, .cons r r1, .cons h k1⟩
/-- sorted(xs), the items reading as enc of bs: a new list of the items of bs in order -/
def rSortD (K : PySem.W.Frag) {β : Type} (enc : β → PyData) : List V → Hp → VK → Prop := fun vs H Q => ∃ (a : Addr) (xs : List V) (bs : List β) (T : V → β → Prop), vs = [V.ref a] ∧ SqL K H a xs ∧ PySem.W.EachIs T xs bs ∧ (∀ x b, T x b → Dp K H x (enc b)) ∧
  ∀ p ys, H p = none → PySem.W.EachIs T ys (bs.mergeSort (PySem.W.dataLe false enc)) → Q (.ref p) (upd H p (.lst ys))
theorem cr_sortD {X : Cx} {β : Type} {enc : β → PyData} (hal : ∀ b b', PySem.W.alike (enc b) (enc b') = true) (htu : ∀ b, ∃ x r, enc b = .tuple (x :: r)) (hdp : ∀ b, (enc b).depth ≤ 8) (hu : X.A.units + 64 < cLine) : CallR X (.builtin "sorted") (rSortD X.K enc) := by
  intro pins s σ H vs us Q I r h
  obtain ⟨a, xs, bs, T, rfl, hs, e, hT, q⟩ := h
  obtain ⟨its, rv, hl, hz⟩ := I.list hs
  obtain ⟨u, rfl, ru⟩ := vals1 r
  obtain rfl : u = Value.ref a := ru
  refine PySem.W.sorted_data (bs := bs) (enc := enc) (R := fun u b => ∃ x, RelV x u ∧ T x b) hl.isList (vals_each rv e) ((vals_each rv e).mono fun u b ⟨x, rx, tx⟩ => Dp.reads I (enc b) x u (hT x b tx) rx)
    (PySem.W.AllAlike.of hal) (PySem.W.Sortable.tuples htu) (by rw [← e.length]; exact hz) (fun b _ => by have := hdp b; omega) fun out ho eo => ?_
  obtain ⟨ys, ry, ey⟩ := each_vals eo
  obtain ⟨c, hc⟩ := sortedAll_at s.heap its out.toArray
  refine ⟨.ref (s.heap.objs.size + 1), upd H (s.heap.objs.size + 1) (.lst ys), I.laid (t' := s.toks) (fun _ _ => sortedAll_old) (Nat.le_succ _) ⟨?_, out, c, ry, hc⟩, rfl, q _ ys (I.hok.fresh (Nat.le_succ _)) ey⟩
  rw [ry.length, ho, ← e.length]
  exact hz
/-! ### t.index(i) -/
theorem flat_ints (ys : List Int) : (ys.map V.int).all flatV = true := by
  rw [List.all_map]
  exact List.all_eq_true.mpr fun _ _ => rfl
theorem mt_tup_indexI {X : Cx} : MtR X "tuple.index" (fun x xs H Q => ∃ p, ∃ ys : List Int, ∃ z j, x = .ref p ∧ xs = [.int z] ∧ SqT X.K H p (ys.map V.int) ∧ ys[j]? = some z ∧ (∀ m, m < j → ys[m]? ≠ some z) ∧ Q (.int (j : Nat)) H) := by
  intro pins s σ H x xs v us Q I rx rs h
  obtain ⟨p, ys, z, j, rfl, rfl, hq, hy, hno, q⟩ := h
  cases rx
  obtain ⟨u, rfl, t, rfl⟩ := vals1 rs
  obtain ⟨its, r, pl, hz⟩ := I.tuple hq
  obtain ⟨⟨cls, dd, dt, sl⟩, ho, hc, n, hd⟩ := pl
  simp only at hc hd
  subst hc
  subst hd
  have hl : its.toArray.size = ys.length := by rw [List.size_toArray, ← r.length, List.length_map]
  have hj : j < its.toArray.size := by rw [hl]; exact (List.getElem?_eq_some_iff.mp hy).1
  have spot : ∀ (m : Nat) (hm : m < its.toArray.size), ∃ y t', ys[m]? = some y ∧ its.toArray[m] = Value.int y t' := fun m hm => by
    have hm' : m < ys.length := by rw [← hl]; exact hm
    obtain ⟨w, hw, t', hw'⟩ := r.get (i := m) (x := .int ys[m]) (by simp [hm'])
    refine ⟨ys[m], t', List.getElem?_eq_getElem hm', ?_⟩
    have e := (List.getElem?_eq_some_iff.mp hw).2
    rw [← hw', ← e]
    simp
  have same : ∀ (y : Int) (t' : Tok), eqU (.int z) (.int y t') = decide (y = z) := fun y t' => by
    rw [eqU_of (y := .int y) ⟨t', rfl⟩ rfl]
    show (y == z) = decide (y = z)
    exact Bool.beq_eq_decide_eq y z
  refine call_meets PySem.F.slot_tuple_index ⟨_, ho, rfl⟩ PySem.F.entry_tuple_index (PySem.F.args_tuple_index_2 _ _) (TI.tuple_indexAt p its.toArray n dd sl (.int z t) (eqU (.int z)) j hj ?_ ?_)
    ⟨ho, fun w hw => mem_eqAt (x := .int z) ⟨t, rfl⟩ rfl r (flat_ints ys) w (by simpa using hw), ⟨.int (j : Nat), H, I.tok _, ⟨_, rfl⟩, q⟩⟩
  · obtain ⟨y, t', h1, h2⟩ := spot j hj
    rw [hy] at h1
    cases h1
    rw [h2, same]
    exact decide_eq_true rfl
  · intro m hm hmj
    obtain ⟨y, t', h1, h2⟩ := spot m hm
    rw [h2, same]
    exact decide_eq_false fun e => hno m hmj (e ▸ h1)
/-! ### enumerate(t) -/
set_option maxHeartbeats 4000000 in
theorem enum_new_of {v : Value} {o : Obj} {G : Heap → Prop} (B : Begins v o G) :
    Meets (Builtin.«enumerate.__new__» ⟨[.type "enumerate", v], []⟩) (fun _ R s => G s.heap ∧
      R (.ok (.ret (.ref (s.heap.push o).objs.size))) { s with heap := (s.heap.push o).push { cls := .type "enumerate", data := .fields #[.none, .bool false, .ref s.heap.objs.size, rawInt 0, .none, .none] } }) :=
  .of_wp fun prog w A R s h => by
    obtain ⟨hp, g, d, tk, os⟩ := s
    obtain ⟨h1, h⟩ := h
    have hsub := sub_enumerate
    have it1 : ∀ {A' : Around} {E : Value → Shared → Prop} {Q : Value → Shared → Prop}, Q (.ref hp.objs.size) ⟨hp.push o, g, d, tk, os⟩ → wpAny (model prog w) A' (pyIter v) Q E ⟨hp, g, d, tk, os⟩ :=
      fun q => B.iter prog w _ _ ⟨hp, g, d, tk, os⟩ _ h1 q
    wp_walk using it1
    refine wpAny_stack_any fun st => wpAny_pure ?_
    split
    · rename_i c _ _ _ _ _
      cases (c == Value.type "enumerate") <;> (wp_walk using it1; exact ⟨_, rfl, h⟩)
    · wp_walk using it1
      exact ⟨_, rfl, h⟩
theorem call_enum_of {prog : Program} {w : World} {A : Around} {E : Value → Shared → Prop} {s : Shared} {v : Value} {o : Obj} {G : Heap → Prop} {Q : Value → Shared → Prop} (B : Begins v o G) (h1 : G s.heap)
    (h : ∀ h', IsEnum h' (s.heap.objs.size + 1) s.heap.objs.size 0 .none → h'.get? s.heap.objs.size = some o → (∀ b o, s.heap.get? b = some o → h'.get? b = some o) → Q (.ref (s.heap.objs.size + 1)) { s with heap := h' }) :
    wpAny (model prog w) A (call (.type "enumerate") [v]) Q E s := by
  refine callType_new F.called_enumerate (by decide) (F.typeCall_enumerate_1 _) (F.newCall_enumerate_1 _) (fun obj => F.args_object_init_2 obj _) F.entry_enumerate_new (enum_new_of B) ⟨h1, ?_⟩
  have hz : (s.heap.push o).objs.size = s.heap.objs.size + 1 := Heap.size_push ..
  show _ ∧ _
  rw [hz]
  have he : IsEnum ((s.heap.push o).push { cls := .type "enumerate", data := .fields #[.none, .bool false, .ref s.heap.objs.size, rawInt 0, .none, .none] }) (s.heap.objs.size + 1) s.heap.objs.size 0 .none := by
    have q := Heap.get?_push_size (s.heap.push o) (o := { cls := .type "enumerate", data := .fields #[.none, .bool false, .ref s.heap.objs.size, rawInt 0, .none, .none] }) rfl
    rw [hz] at q
    exact q
  exact ⟨⟨_, he, rfl⟩, h _ he (Heap.get?_push_of_some _ (Heap.get?_push_size _ B.free)) fun b u x => Heap.get?_push_of_some _ (Heap.get?_push_of_some _ x)⟩
/-- the tuple at a, each item in a new pair behind its number -/
def IteT (K : PySem.W.Frag) (a : Addr) : It :=
  ⟨fun i H => ∃ (xs : List V) (x : V), SqT K H a xs ∧ xs[i]? = some x, fun i H v H' => ∃ T x, v = .ref T ∧ H T = none ∧ H' = upd H T (.tup [.int (i : Nat), x]) ∧ ∀ xs, SqT K H a xs → xs[i]? = some x, fun i H => ∃ xs : List V, SqT K H a xs ∧ xs.length = i⟩
theorem turn_enumT {P : Program} {w : World} {K : PySem.W.Frag} {elts : List Expr} {kk : Nat} {tpos : Pos} (a e it : Addr) :
    Turn P w K (.Tuple elts kk tpos) (IteT K a) [e, it] e (fun i h => (∃ old, IsEnum h e it ((i : Nat) : Int) old) ∧ h.IsTupleIter it a i ∧ e ≠ it ∧ a ≠ it ∧ e ≠ a) where
  mem := by simp
  obj := fun i h st b hb => by
    obtain ⟨⟨old, he⟩, ⟨o, ho, hc, hd⟩, _⟩ := st
    rcases (show b = e ∨ b = it by simpa using hb) with z | z
    · rw [z]; exact ⟨_, he, fun v q => nomatch q⟩
    · rw [z]; exact ⟨o, ho, fun v q => by rw [hd] at q; cases q⟩
  keep := fun i h h' st k => let ⟨⟨old, he⟩, hi, hne⟩ := st; ⟨⟨old, k e (by simp) _ he⟩, hi.at fun o q => k it (by simp) o q, hne⟩
  item := by
    intro X hP hw hK hc i pins s σ H E I hf st hg
    subst hP hw hK
    obtain ⟨⟨old, he⟩, hit, hne, hai, hea⟩ := st
    obtain ⟨xs, x, hq, hx⟩ := hg
    obtain ⟨its, rv, p, hz⟩ := I.tuple hq
    obtain ⟨u, hu, ru⟩ := rv.get hx
    have hel : e < s.heap.objs.size := Heap.lt_size he
    have hil : it < s.heap.objs.size := by obtain ⟨_, q, _⟩ := hit; exact Heap.lt_size q
    have hlt : i < its.toArray.size := by simpa using (List.getElem?_eq_some_iff.mp hu).1
    have D := Draws.tuple (prog := X.prog) (w := X.w) (A := X.A.in1) (I.ok.hd hc) it a hai its.toArray
    refine wpAny_pyNext_enum_itemD D he ⟨hit, (show s.heap.IsTuple a its.toArray from p)⟩ hlt hne (by simp [hne, hea]) fun x1 h' tk hx1 ho hit' hT hsz hk => ?_
    have ex : x1 = u := by
      rw [show its.toArray[i]? = its[i]? by simp, hu] at hx1
      exact (Option.some.inj hx1).symm
    subst ex
    refine ⟨_, rfl, wpAny_letOwnedTupleGo_enum (s := { s with heap := h', toks := tk + 1 }) ho fun h'' he' sb => ?_⟩
    have hT2 : h''.get? s.heap.objs.size = some { cls := .type "tuple", data := .seq #[.int i tk, x1] } := (sb.2 _ (Nat.ne_of_gt hel)).trans hT
    have new : ObjOk X.prog X.w (upd H s.heap.objs.size (.tup [.int (i : Nat), x])) h'' s.heap.objs.size (.tup [.int (i : Nat), x]) :=
      ⟨by show 2 ≤ sizeLine; decide, [.int i tk, x1], .cons ⟨_, rfl⟩ (.cons ru .nil), ⟨_, hT2, rfl, _, rfl⟩⟩
    have I1 : Inv X pins σ (upd H s.heap.objs.size (.tup [.int (i : Nat), x])) { s with heap := h'', toks := tk + 1 } :=
      I.turnedNew (ch := [e, it]) (fun b ob hb q => (sb.2 b (fun z => hb (by simp [z]))).trans (hk b ob (fun z => hb (by simp [z])) (fun z => hb (by simp [z])) q)) hf (Nat.le_refl _) new
    refine ⟨.ref s.heap.objs.size, _, I1, rfl, ⟨_, x, rfl, I.hok.fresh (Nat.le_refl _), rfl, fun ys hy => by rw [I.tuple_inj hy hq]; exact hx⟩, ⟨⟨x1, ?_⟩, hit'.1.at fun o q => (sb.2 it (Ne.symm hne)).trans q, hne, hai, hea⟩, fun b hb => ?_⟩
    · rw [show ((i + 1 : Nat) : Int) = (i : Int) + 1 by omega]
      exact he'
    · have hb' : b < s.heap.objs.size := by
        rcases (show b = e ∨ b = it by simpa using hb) with z | z
        · rw [z]; exact hel
        · rw [z]; exact hil
      rw [upd_ne (Nat.ne_of_lt hb')]
      exact (hf b hb).1
  done := by
    intro X hP hw hK hc i pins s σ H E I hf st hg
    subst hP hw hK
    obtain ⟨⟨old, he⟩, hit, hne, hai, hea⟩ := st
    obtain ⟨xs, hq, hx⟩ := hg
    obtain ⟨its, rv, p, hz⟩ := I.tuple hq
    obtain ⟨f0, f1, f2, f3, f4, f5⟩ := hf it (by simp)
    have hl := rv.length
    have D := Draws.tuple (prog := X.prog) (w := X.w) (A := X.A.in1) (I.ok.hd hc) it a hai its.toArray
    have en : its.toArray.size = i := by simp; omega
    exact wpAny_pyNext_enum_endD D he (by rw [en]; exact ⟨hit, (show s.heap.IsTuple a its.toArray from p)⟩) fun h' eb => ⟨rfl, I.turned (t' := s.toks) (fun b o hb q => eb b o hb q) f0 f1 f3 f4 f5⟩
  self := fun A i s Q E st h => let ⟨⟨_, he⟩, _⟩ := st; wpAny_pyIter_enum he h
def iEnumT (K : PySem.W.Frag) (ta : TA) : TI := fun σ H R => ta σ H fun vs H1 => ∃ a xs, vs = [.ref a] ∧ SqT K H1 a xs ∧ R (IteT K a) H1
theorem pi_enumT {X : Cx} {e : Expr} {ta : TA} {p pos tpos : Pos} {elts : List Expr} {kk : Nat} (hg : Gl X "enumerate") (hm : X.mg "enumerate" = none) (ha : PA X [e] ta) (hs : starEach [e] X.env = [(false, eval e X.env)] := by rfl) :
    PI X (.Tuple elts kk tpos) (.Call (.Name "enumerate" p) [e] [] pos) (iEnumT X.K ta) := by
  refine ⟨fun pins s σ H R I h => ?_⟩
  refine Call_ (ld_blt I hg hm boot_enumerate (PyProof.Rows.callWith_type1 (thn (ha.run pos pins s σ H _ I h) fun us s1 ⟨vs, H1, I1, r1, q1⟩ => ?_) hs rfl))
  obtain ⟨a, xs, ex, hq, q⟩ := q1
  subst ex
  cases r1 with
  | cons r rr =>
    cases rr
    cases r
    obtain ⟨its, rv, p', hz⟩ := I1.tuple hq
    have hal : a < s1.heap.objs.size := p'.lt
    refine call_enum_of (begins_tuple a its.toArray) (show s1.heap.IsTuple a its.toArray from p') fun h' he hit hk => wpAny_pyIter_enum he ?_
    have I2 : Inv X pins σ H1 { s1 with heap := h' } := I1.kept (t' := s1.toks) hk
    refine ⟨s1.heap.objs.size + 1, [s1.heap.objs.size + 1, s1.heap.objs.size], _, _, H1, rfl, I2, turn_enumT a (s1.heap.objs.size + 1) s1.heap.objs.size, ⟨⟨.none, he⟩, ⟨_, hit, rfl, rfl⟩, Nat.succ_ne_self _, Nat.ne_of_lt hal, Nat.ne_of_gt (Nat.lt_succ_of_lt hal)⟩, fun b hb => ?_, q⟩
    have hle : s1.heap.objs.size ≤ b := by
      rcases (show b = s1.heap.objs.size + 1 ∨ b = s1.heap.objs.size by simpa using hb) with z | z
      · rw [z]; exact Nat.le_add_right _ _
      · rw [z]; exact Nat.le_refl _
    exact I1.fpOk hle (I1.hok.fresh hle)
/-- a for over enumerate(t): at turn i the pair (i, x) is a new tuple at T -/
theorem for_enumT {K : PySem.W.Frag} {a : Addr} {xs : List V} {g : TG} {tb : TS} {D : Ends} {σ : L2.St} {H : Hp} (Pv : Nat → L2.St → Hp → Prop) (h0 : Pv 0 σ H) (hl : ∀ i σ H, i ≤ xs.length → Pv i σ H → SqT K H a xs)
    (hs : ∀ i x T σ H, xs[i]? = some x → Pv i σ H → H T = none → g (.ref T) σ (upd H T (.tup [.int (i : Nat), x])) fun σ2 H2 => tb { D with nx := Pv (i + 1), ct := Pv (i + 1), bk := D.nx } σ2 H2) (hd : ∀ σ H, Pv xs.length σ H → D.nx σ H) :
    ∃ W : Nat → Nat → L2.St → Hp → Prop, (∃ m, W 0 m σ H) ∧ ∀ i m σ H, W i m σ H →
      ((IteT K a).stop i H ∧ D.nx σ H) ∨ ((IteT K a).go i H ∧ ∃ N : L2.St → Hp → Prop, (∀ σ' H', N σ' H' → ∃ m', m' < m ∧ W (i + 1) m' σ' H') ∧ ∀ x H', (IteT K a).yld i H x H' → g x σ H' fun σ2 H2 => tb { D with nx := N, ct := N, bk := D.nx } σ2 H2) := by
  refine ⟨fun i m σ H => m = xs.length - i ∧ i ≤ xs.length ∧ Pv i σ H, ⟨xs.length, by simp, Nat.zero_le _, h0⟩, ?_⟩
  rintro i m σ H ⟨rfl, hi, p⟩
  have q := hl i σ H hi p
  by_cases hlt : i < xs.length
  · refine .inr ⟨⟨xs, xs[i], q, by simp [hlt]⟩, Pv (i + 1), fun σ' H' p' => ⟨xs.length - (i + 1), by omega, rfl, hlt, p'⟩, fun v H' y => ?_⟩
    obtain ⟨T, x, rfl, hT, rfl, hx⟩ := y
    exact hs i x T σ H (hx xs q) p hT
  · have e : i = xs.length := by omega
    subst e
    exact .inl ⟨⟨xs, q, rfl⟩, hd σ H p⟩
end K9
namespace K9
open PySem PySem.Spec PyProof.Rows L2
/-! ### a tuple whose object is known -/
/-- tuple(a list): a new one, told by its object -/
theorem call_tuple_frz {X : Cx} : CallR X (.type "tuple") (fun xs H Q => ∃ p ys, xs = [.ref p] ∧ SqL X.K H p ys ∧ ∀ (l : Addr) (o : Obj), H l = none → o.dict = none → Q (.ref l) (upd H l (.frz o (.tup ys)))) := by
  intro pins s σ H xs us Q I r h
  obtain ⟨p, ys, rfl, hq, q⟩ := h
  obtain ⟨u, rfl, rx⟩ := vals1 r
  cases rx
  obtain ⟨its, r', pl, hz⟩ := I.list hq
  have hlen := r'.length
  refine call_tuple_list pl.isList (fun h' kp => ?_) (by simp only [List.size_toArray] <;> omega)
  have I1 : Inv X pins σ H { s with heap := h' } := I.kept (t' := s.toks) kp
  have I2 : Inv X pins σ (upd H h'.objs.size (.frz { cls := .type "tuple", data := .seq its.toArray } (.tup ys))) { s with heap := h'.push { cls := .type "tuple", data := .seq its.toArray } } :=
    I1.laid (t' := s.toks) (fun b o e => Heap.get?_push_of_some _ e) (Nat.le_refl _) ⟨Heap.get?_push_size _ rfl, hz, its, r', IsTup.new _ _⟩
  exact ⟨.ref h'.objs.size, _, I2, rfl, q _ _ (I1.hok.fresh (Nat.le_refl _)) rfl⟩
section
variable {X : Cx} {o e : Expr} {es : List Expr} {to : TE} {t : TA} {name : Str} {apos cpos : Pos} {id : String} {r : V → List V → Hp → VK → Prop}
def tTM (r : V → List V → Hp → VK → Prop) (to : TE) (t : TA) : TE := fun σ H Q => to σ H fun x H1 => (∃ a ob ys, x = V.ref a ∧ H1 a = some (.frz ob (.tup ys)) ∧ ob.dict = none) ∧ t σ H1 fun xs H2 => r x xs H2 Q
/-- t.m(e, ..), t such a tuple -/
theorem pe_tm (slot : Slot "tuple" name id) (hty : typeOf (.builtin id) = pure (.type "method_descriptor")) (hm : MtR X id r) (ho : PE X o to) (ha : PA X (e :: es) t)
    (hbase : attributeBase o name X.env (eval o X.env) = eval o X.env := by rfl)
    (hfew : ((backTo cpos (starEach (e :: es) X.env)).all (fun x => !x.1) && (backToKw cpos (keywordEach [] X.env)).all (fun x => x.1.isSome)
      && decide ((e :: es).length + ([] : List Keyword).length + (if ([] : List Keyword).isEmpty then 0 else 1) < 30)) = true := by rfl)
    (hline : (apos.endLine == cpos.line) = true := by rfl) (hs : starEach (e :: es) X.env = (false, eval e X.env) :: starEach es X.env := by rfl) (hplain : (backTo cpos (starEach es X.env)).any (·.1) = false := by rfl) :
    PE X (.Call (.Attribute o name apos) (e :: es) [] cpos) (tTM r to t) := by
  refine ⟨fun pins s σ H Q I h => ?_⟩
  refine wpAny_Call_method_late hbase hfew hline rfl (thn (ho.run pins s σ H _ I h) fun v s1 ⟨x, H1, I1, r1, ⟨a, ob, ys, ex, ea, ed⟩, q1⟩ => ?_)
  subst ex
  cases r1
  obtain ⟨g1, _, its, rv, oo, g2, g3, _⟩ := I1.hok a _ ea
  have hA := ha.run cpos pins s1 σ H1 _ I1 q1
  refine ⟨"tuple", id, PySem.F.plainAttrs_tuple, slot, hty, ⟨oo, g2, g3⟩, fun b e2 => ?_, ?_⟩
  · cases e2
    exact ⟨ob, g1, ed⟩
  · rw [hs] at hA ⊢
    refine Calls.callWith_builtin (by show (false || (backTo cpos (starEach es X.env)).any (·.1)) = false; rw [hplain] <;> rfl) (Calls.evalArgs_plain ?_)
    exact thn hA fun us s2 ⟨vs, H2, I2, r2, q2⟩ => hm pins s2 σ H2 (V.ref a) vs (Value.ref a) us Q I2 rfl r2 q2
end
end K9

set_option Elab.async false
set_option linter.all false
set_option maxRecDepth 100000
/-! The text by places. -/
namespace K9
open PySem PySem.Spec PyProof.Rows L2
def top (i : Nat) : Stmt := PySem.Challenge.pw_loopstore_k09_whole_clashes_by_own_look.main.body.getD i (.Pass ⟨0, 0, 0, 0⟩)
abbrev sIsInteger : Stmt := top 11
abbrev sIsWithin : Stmt := top 12
abbrev sAreWithin : Stmt := top 13
abbrev sIsLoops : Stmt := top 14
abbrev sIsRow : Stmt := top 15
abbrev sSumOf : Stmt := top 16
abbrev sCheckComers : Stmt := top 17
abbrev sEntriesOf : Stmt := top 19
abbrev sInit : Stmt := inClass (top 20) 0
abbrev sEntriesAt : Stmt := inClass (top 20) 2
abbrev sEntries : Stmt := top 21
abbrev sClash : Stmt := top 23
abbrev sClashes : Stmt := top 24
abbrev sSafe : Stmt := top 25
abbrev sFlag : Stmt := top 27
abbrev sTape : Stmt := top 28
abbrev sPick : Stmt := top 29
abbrev sLoops : Stmt := top 30
abbrev sRow : Stmt := top 31
abbrev sRows : Stmt := top 32
abbrev sLEntries : Stmt := top 34
abbrev sLClash : Stmt := top 35
abbrev sLTable : Stmt := top 36
abbrev sLaw : Stmt := top 37
abbrev FnP (K : PySem.W.Frag) (x q : Str) (st : Stmt) (f : Addr) (fd : FuncData) : Prop := FunD K x q (defArgs st) (defBody st) (defScope st) [] [] f fd
end K9

set_option Elab.async false
set_option linter.all false
set_option maxRecDepth 100000
set_option maxHeartbeats 0
/-! The head: facts by names, the run of the top. -/
namespace K9
open PySem PySem.Spec PyProof.Rows L2
def dfn (x : Str) (st : Stmt) : He.DefD := ⟨(x, none), x, x, defArgs st, defBody st, defScope st, [], []⟩
def dmt (c x q : Str) (st : Stmt) : He.DefD := ⟨(c, some x), x, q, defArgs st, defBody st, defScope st, [], []⟩
def fn : List He.DefD := [dfn "is_integer" sIsInteger, dfn "is_within" sIsWithin, dfn "are_within" sAreWithin, dfn "is_loops" sIsLoops, dfn "is_row" sIsRow, dfn "sum_of" sSumOf, dfn "check_comers" sCheckComers, dfn "entries_of" sEntriesOf,
  dmt "Table" "__init__" "Table.__init__" sInit, dmt "Table" "entries_at" "Table.entries_at" sEntriesAt, dfn "entries" sEntries, dfn "clash" sClash, dfn "clashes" sClashes, dfn "safe" sSafe,
  dfn "_law_flag" sFlag, dfn "_law_tape" sTape, dfn "_law_pick" sPick, dfn "_law_loops" sLoops, dfn "_law_row" sRow, dfn "_law_rows" sRows, dfn "_law_entries" sLEntries, dfn "_law_clash" sLClash, dfn "_law_table_clashes" sLTable, dfn "law" sLaw]
def fa : List He.Fa := [.glo "is_integer", .glo "is_within", .glo "are_within", .glo "is_loops", .glo "is_row", .glo "sum_of", .glo "check_comers", .glo "entries_of", .glo "Table", .glo "entries", .glo "clash", .glo "clashes", .glo "safe",
  .glo "_law_flag", .glo "_law_tape", .glo "_law_pick", .glo "_law_loops", .glo "_law_row", .glo "_law_rows", .glo "_law_entries", .glo "_law_clash", .glo "_law_table_clashes", .glo "law",
  .int "LEAST_COMERS" 2, .int "MOST_COMERS" 4, .int "MOST_BOUND" 60, .int "MOST_LOOPS" 8, .int "MOST_LENGTH" 40, .int "MOST_ITEMS" 60,
  .free "isinstance", .free "int", .free "bool", .free "tuple", .free "list", .free "len", .free "all", .free "sum", .free "range", .free "enumerate", .free "sorted",
  .cls "Table", .mkr "Table", .meth "Table" "entries_at", .noat "Table" "loops", .noat "Table" "rows", .noat "Table" "bound", .noat "Table" "kept_entries"]
def loose : List Str := ["LoopError", "NoComers", "BadTable", "LEAST_COMERS", "MOST_COMERS", "MOST_BOUND", "MOST_LOOPS", "MOST_LENGTH", "MOST_ITEMS", "is_integer", "is_within", "are_within", "is_loops", "is_row", "sum_of", "check_comers", "entries_of", "Table", "entries", "clash",
  "clashes", "safe", "_law_flag", "_law_tape", "_law_pick", "_law_loops", "_law_row", "_law_rows", "_law_comings", "_law_entries", "_law_clash", "_law_table_clashes"]
abbrev R : PySem.W.OpenRow := PySem.W.OpenLaw.row PySem.Challenge.rw_loopstore_k09_whole_clashes_by_own_look
abbrev hk : PySem.W.Hook := He.hookD 5 fa fn
def ob (s : PySem.W.SharedT) : He.AlD := He.obsDG 5 fa fn (HandSHeadRun.getT s)
theorem ob_eq (s : PySem.W.SharedT) : ob s = hk.obs s.abs := He.obsDG_eq (HandSHeadRun.getT_eq s)
theorem run (w : World) : HandSHeadRun.RunEq R (PySem.W.view R.prog [37]) hk ob 20000 loose w := by
  intro os
  kernel_rfl
end K9

set_option Elab.async false
set_option linter.all false
set_option maxRecDepth 100000
set_option maxHeartbeats 2000000
/-! What stands in the heap; frames; the text's facts. -/
namespace K9
open PySem PySem.Spec PyProof.Rows L2
open PySem.W (EachIs)
/-! ### frames -/
/-- the tape's form -/
def isTape : HO → Bool
  | .lst [.ref _, .int _, .int _, .int _, .int _] => true
  | _ => false
/-- all but tapes stays -/
def Fra (H H' : Hp) : Prop := ∀ b o, H b = some o → isTape o = false → H' b = some o
/-- tuples stay -/
def TS (H H' : Hp) : Prop := ∀ b xs, H b = some (.tup xs) → H' b = some (.tup xs)
theorem Fra.of {H H' : Hp} (s : Same H H') : Fra H H' := fun b o e _ => s b o e
theorem Fra.refl (H : Hp) : Fra H H := fun _ _ e _ => e
theorem Fra.trans {H H1 H2 : Hp} (a : Fra H H1) (b : Fra H1 H2) : Fra H H2 := fun c o e t => b c o (a c o e t) t
theorem Fra.ts {H H' : Hp} (a : Fra H H') : TS H H' := fun b xs e => a b _ e rfl
theorem sts {H H' : Hp} (a : Same H H') : TS H H' := fun b xs e => a b _ e
theorem TS.trans {H H1 H2 : Hp} (a : TS H H1) (b : TS H1 H2) : TS H H2 := fun c xs e => b c xs (a c xs e)
theorem same_new {H : Hp} {p : Addr} {o : HO} (h : H p = none) : Same H (upd H p o) := fun b u e => by
  rw [upd_ne (ne_of_none e h)]
  exact e
theorem same_set {H0 H : Hp} {p : Addr} {o : HO} (s : Same H0 H) (h : H0 p = none) : Same H0 (upd H p o) := fun b u e => by
  rw [upd_ne (ne_of_none e h)]
  exact s b u e
theorem ts_set {H : Hp} {p : Addr} {o : HO} (h : ∀ xs, H p ≠ some (.tup xs)) : TS H (upd H p o) := fun b xs e => by
  by_cases hb : b = p
  · subst hb
    exact absurd e (h xs)
  · rw [upd_ne hb]
    exact e
theorem nt_lst {H : Hp} {p : Addr} {l : List V} (h : H p = some (.lst l)) : ∀ xs, H p ≠ some (.tup xs) := fun xs e => by
  rw [h] at e
  cases e
theorem nt_non {H : Hp} {p : Addr} (h : H p = none) : ∀ xs, H p ≠ some (.tup xs) := fun xs e => by
  rw [h] at e
  cases e
theorem nt_dT {H : Hp} {p : Addr} {kvs : List (List Key × V)} (h : H p = some (.dT kvs)) : ∀ xs, H p ≠ some (.tup xs) := fun xs e => by
  rw [h] at e
  cases e
/-! ### a tuple to be read, locked or not -/
theorem _root_.L2.Rd.s {H H' : Hp} {a : Addr} {u : HO} (s : Same H H') (h : Rd H a u) : Rd H' a u := h.imp (s _ _) fun ⟨o, e⟩ => ⟨o, s _ _ e⟩
theorem _root_.L2.Rd.f {H H' : Hp} {a : Addr} {xs : List V} (s : Fra H H') (h : Rd H a (.tup xs)) : Rd H' a (.tup xs) := h.imp (fun e => s _ _ e rfl) fun ⟨o, e⟩ => ⟨o, s _ _ e rfl⟩
theorem _root_.L2.Rd.but {H H' : Hp} {a p C dx : Addr} {fs : List (Str × V)} {xs : List V} (hp : H p = some (.ins C dx fs)) (s : ∀ b o, H b = some o → b ≠ p → H' b = some o) (h : Rd H a (.tup xs)) : Rd H' a (.tup xs) :=
  h.imp (fun e => s _ _ e (ne_of e hp (by intro z; cases z))) fun ⟨o, e⟩ => ⟨o, s _ _ e (ne_of e hp (by intro z; cases z))⟩
theorem sqR {K : PySem.W.Frag} {H : Hp} {a : Addr} {xs : List V} (h : Rd H a (.tup xs)) : SqT K H a xs := .inl h
theorem tyx_rd {K : PySem.W.Frag} {H : Hp} {a : Addr} {xs : List V} (h : Rd H a (.tup xs)) : TyX K H (.ref a) (.type "tuple") := by
  rcases h with h | ⟨o, h⟩
  · exact .base (.tup h)
  · exact .fTuple h
/-- the loops' tuple, its object known: no method is hidden -/
def LoopT (H : Hp) (l : Addr) (ls : List Int) : Prop := ∃ o, H l = some (.frz o (.tup (ls.map V.int))) ∧ o.dict = none
theorem LoopT.rd {H : Hp} {l : Addr} {ls : List Int} (h : LoopT H l ls) : Rd H l (.tup (ls.map V.int)) := let ⟨o, e, _⟩ := h; .inr ⟨o, e⟩
theorem LoopT.f {H H' : Hp} {l : Addr} {ls : List Int} (s : Fra H H') (h : LoopT H l ls) : LoopT H' l ls := let ⟨o, e, d⟩ := h; ⟨o, s _ _ e rfl, d⟩
/-! ### data in the heap -/
/-- an entry's tuple -/
def RE (H : Hp) (v : V) (e : Ent) : Prop := ∃ b, v = .ref b ∧ H b = some (.tup [.int e.1, .int e.2.1, .int e.2.2])
/-- a pair of entries -/
def RP (H : Hp) (v : V) (p : Pr) : Prop := ∃ b x y, v = .ref b ∧ H b = some (.tup [x, y]) ∧ RE H x p.1 ∧ RE H y p.2
/-- a tuple of ints -/
def RI (H : Hp) (v : V) (ns : List Int) : Prop := ∃ a, v = .ref a ∧ H a = some (.tup (ns.map V.int))
/-- a list of entries -/
def LE (H : Hp) (a : Addr) (es : List Ent) : Prop := ∃ xs, H a = some (.lst xs) ∧ EachIs (RE H) xs es
def LP (H : Hp) (a : Addr) (ps : List Pr) : Prop := ∃ xs, H a = some (.lst xs) ∧ EachIs (RP H) xs ps
def RL (H : Hp) (v : V) (es : List Ent) : Prop := ∃ a, v = .ref a ∧ LE H a es
section
variable {H H' : Hp} {v : V} {a : Addr}
theorem RE.ts (t : TS H H') {e : Ent} (h : RE H v e) : RE H' v e := let ⟨b, e1, e2⟩ := h; ⟨b, e1, t b _ e2⟩
theorem RP.ts (t : TS H H') {p : Pr} (h : RP H v p) : RP H' v p := let ⟨b, x, y, e1, e2, e3, e4⟩ := h; ⟨b, x, y, e1, t b _ e2, e3.ts t, e4.ts t⟩
theorem RI.ts (t : TS H H') {ns : List Int} (h : RI H v ns) : RI H' v ns := let ⟨b, e1, e2⟩ := h; ⟨b, e1, t b _ e2⟩
theorem EachIs.ts_RE (t : TS H H') {xs : List V} {es : List Ent} (h : EachIs (RE H) xs es) : EachIs (RE H') xs es := h.mono fun _ _ q => q.ts t
theorem EachIs.ts_RP (t : TS H H') {xs : List V} {es : List Pr} (h : EachIs (RP H) xs es) : EachIs (RP H') xs es := h.mono fun _ _ q => q.ts t
theorem EachIs.ts_RI (t : TS H H') {xs : List V} {es : List (List Int)} (h : EachIs (RI H) xs es) : EachIs (RI H') xs es := h.mono fun _ _ q => q.ts t
theorem refs_RE : ∀ {xs : List V} {es : List Ent}, EachIs (RE H) xs es → ∀ x ∈ xs, ∃ b, x = V.ref b := fun {xs es} h x hx => by
  obtain ⟨e, _, b, q, _⟩ := h.left x hx
  exact ⟨b, q⟩
theorem refs_RL : ∀ {xs : List V} {es : List (List Ent)}, EachIs (RL H) xs es → ∀ x ∈ xs, ∃ b, x = V.ref b := fun {xs es} h x hx => by
  obtain ⟨e, _, b, q, _⟩ := h.left x hx
  exact ⟨b, q⟩
theorem noTape : ∀ {xs : List V}, (∀ x ∈ xs, ∃ b, x = V.ref b) → isTape (.lst xs) = false
  | [], _ => rfl
  | [x], _ => by cases x <;> rfl
  | x :: y :: r, h => by
    obtain ⟨b, rfl⟩ := h y (by simp)
    obtain ⟨c, rfl⟩ := h x (by simp)
    rfl
theorem noTapeI : ∀ {ns : List Int}, isTape (.lst (ns.map V.int)) = false
  | [] => rfl
  | x :: r => rfl
theorem LE.fra (t : Fra H H') {es : List Ent} (h : LE H a es) : LE H' a es := let ⟨xs, e1, e2⟩ := h; ⟨xs, t a _ e1 (noTape (refs_RE e2)), EachIs.ts_RE t.ts e2⟩
theorem RL.fra (t : Fra H H') {es : List Ent} (h : RL H v es) : RL H' v es := let ⟨b, e1, e2⟩ := h; ⟨b, e1, e2.fra t⟩
theorem LP.same (t : Same H H') {ps : List Pr} (h : LP H a ps) : LP H' a ps := let ⟨xs, e1, e2⟩ := h; ⟨xs, t a _ e1, EachIs.ts_RP (sts t) e2⟩
end
theorem each_snoc {α β : Type} {R : α → β → Prop} : ∀ {as : List α} {bs : List β} {a : α} {b : β}, EachIs R as bs → R a b → EachIs R (as ++ [a]) (bs ++ [b])
  | _, _, _, _, .nil, h => .cons h .nil
  | _, _, _, _, .cons q t, h => .cons q (each_snoc t h)
theorem each_get {α β : Type} {R : α → β → Prop} : ∀ {as : List α} {bs : List β} {i : Nat} {a : α}, EachIs R as bs → as[i]? = some a → ∃ b, bs[i]? = some b ∧ R a b
  | _, _, _, _, .nil, h => by simp at h
  | _, _, 0, _, .cons q t, h => ⟨_, rfl, by
    have e := Option.some.inj h
    rw [← e]
    exact q⟩
  | _, _, i + 1, a, .cons q t, h => each_get (i := i) t h
theorem each_getR {α β : Type} {R : α → β → Prop} : ∀ {as : List α} {bs : List β} {i : Nat} {b : β}, EachIs R as bs → bs[i]? = some b → ∃ a, as[i]? = some a ∧ R a b
  | _, _, _, _, .nil, h => by simp at h
  | _, _, 0, _, .cons q t, h => ⟨_, rfl, by
    have e := Option.some.inj h
    rw [← e]
    exact q⟩
  | _, _, i + 1, b, .cons q t, h => each_getR (i := i) t h
theorem each_take {α β : Type} {R : α → β → Prop} : ∀ {as : List α} {bs : List β} (k : Nat), EachIs R as bs → EachIs R (as.take k) (bs.take k)
  | _, _, 0, _ => .nil
  | _, _, _ + 1, .nil => .nil
  | _, _, k + 1, .cons q t => .cons q (each_take k t)
/-- the tape at t, the script's copy at s: what it holds hangs on the script, all that is asked of it is its form -/
def TapeOk (H : Hp) (t s : Addr) : Prop := ∃ (ns : List Int) (i a m c : Int), H t = some (.lst [.ref s, .int i, .int a, .int m, .int c]) ∧ H s = some (.lst (ns.map V.int)) ∧ 0 ≤ i
theorem TapeOk.same {H H' : Hp} {t z : Addr} (s : Same H H') (h : TapeOk H t z) : TapeOk H' t z := by
  obtain ⟨ns, i, a, m, c, h1, h2, h3⟩ := h
  exact ⟨ns, i, a, m, c, s _ _ h1, s _ _ h2, h3⟩
theorem TapeOk.set {H0 H : Hp} {t s D : Addr} {o : HO} (h0 : TapeOk H0 t s) (hD : H0 D = none) (h : TapeOk H t s) : TapeOk (upd H D o) t s := by
  obtain ⟨_, _, _, _, _, g1, g2, _⟩ := h0
  obtain ⟨ns, i, a, m, c, h1, h2, h3⟩ := h
  exact ⟨ns, i, a, m, c, by rw [upd_ne (ne_of_none g1 hD)]; exact h1, by rw [upd_ne (ne_of_none g2 hD)]; exact h2, h3⟩
theorem fra_set {H0 H : Hp} {D : Addr} {o : HO} (s : Fra H0 H) (h : H0 D = none) : Fra H0 (upd H D o) := fun b u e n => by
  rw [upd_ne (ne_of_none e h)]
  exact s b u e n
/-- a Table at p: the loops ls, the rows rws (what is read behind __init__: its bound and its entries) -/
def TableAt (C : Addr) (H : Hp) (p : Addr) (ls : List Int) (rws : List (List Int)) : Prop :=
  ∃ (dx ka : Addr) (fs : List (Str × V)) (ks : List V), H p = some (.ins C dx fs) ∧ fs.lookup ("bound" : Str) = some (.int (rws.length : Nat)) ∧ fs.lookup ("kept_entries" : Str) = some (.ref ka) ∧ fs.lookup ("entries_at" : Str) = none ∧
    H ka = some (.lst ks) ∧ EachIs (RL H) ks ([] :: rws.map (ents ls))
theorem TableAt.fra {C : Addr} {H H' : Hp} {p : Addr} {ls : List Int} {rws : List (List Int)} (t : Fra H H') (h : TableAt C H p ls rws) : TableAt C H' p ls rws := by
  obtain ⟨dx, ka, fs, ks, h1, h2, h3, h4, h5, h6⟩ := h
  exact ⟨dx, ka, fs, ks, t _ _ h1 rfl, h2, h3, h4, t _ _ h5 (noTape (refs_RL h6)), h6.mono fun _ _ q => q.fra t⟩
/-! ### the text's facts -/
structure Txt (mg : Str → Option Value) : Prop where
  isinst : mg "isinstance" = none
  int : mg "int" = none
  bool : mg "bool" = none
  tuple : mg "tuple" = none
  list : mg "list" = none
  len : mg "len" = none
  all : mg "all" = none
  sum : mg "sum" = none
  range : mg "range" = none
  enum : mg "enumerate" = none
  sorted : mg "sorted" = none
  lc : ∃ t, mg "LEAST_COMERS" = some (.int 2 t)
  mc : ∃ t, mg "MOST_COMERS" = some (.int 4 t)
  mb : ∃ t, mg "MOST_BOUND" = some (.int 60 t)
  ml : ∃ t, mg "MOST_LOOPS" = some (.int 8 t)
  mn : ∃ t, mg "MOST_LENGTH" = some (.int 40 t)
  mi : ∃ t, mg "MOST_ITEMS" = some (.int 60 t)
structure Cls1 (K : PySem.W.Frag) (C : Addr) : Prop where
  cl : Cls K C
  n1 : NoAttr K C "loops"
  n2 : NoAttr K C "rows"
  n3 : NoAttr K C "bound"
  n4 : NoAttr K C "kept_entries"
/-- a def of the module, as its callers use it -/
structure Cal (P : Program) (w : World) (K : PySem.W.Frag) (mg : Str → Option Value) (base : Heap) (k : Nat) (x : Str) (ps : List Str) (sp : Sp) : Prop where
  ex : ∃ f fd, FnOk P w K mg base CX0 k f fd ps sp ∧ mg x = some (.ref f) ∧ PySem.W.keepIn K (.ref f) = true ∧ Binds K fd ps []
theorem small_line {n : Nat} (h : n < 16777216) : n < sizeLine := by
  rw [sizeLine_eq]
  exact h
theorem small_line' {n : Nat} (h : n ≤ 16777216) : n ≤ sizeLine := by
  rw [sizeLine_eq]
  exact h
/-- the context's facts that a def's body passes on -/
theorem hu65 {A : Around} {k : Nat} (hr : Room k A) : A.units + 65 < cLine := by
  have := hr.un
  omega
end K9

set_option Elab.async false
set_option linter.all false
set_option maxRecDepth 100000
set_option maxHeartbeats 4000000
/-! The checks. -/
namespace K9
open PySem PySem.Spec PyProof.Rows L2
open PySem.W (EachIs)
def spIsInteger : Sp := fun vs H Q _ => ∃ i : Int, vs = [.int i] ∧ Q (.bl true) H
def spIsWithin : Sp := fun vs H Q _ => ∃ i a b : Int, vs = [.int i, .int a, .int b] ∧ a ≤ i ∧ i ≤ b ∧ Q (.bl true) H
def spAreWithin : Sp := fun vs H Q _ => ∃ (t : Addr) (ns : List Int) (m a b : Int), vs = [.ref t, .int m, .int a, .int b] ∧ Rd H t (.tup (ns.map V.int)) ∧ (ns.length : Int) ≤ m ∧ (∀ n ∈ ns, a ≤ n ∧ n ≤ b) ∧ ns.length ≤ 1000 ∧ ∀ H', Same H H' → Q (.bl true) H'
def spIsLoops : Sp := fun vs H Q _ => ∃ (t : Addr) (ls : List Int), vs = [.ref t] ∧ Rd H t (.tup (ls.map V.int)) ∧ LoopsOk ls ∧ ∀ H', Same H H' → Q (.bl true) H'
def spIsRow : Sp := fun vs H Q _ => ∃ (l t : Addr) (ls row : List Int), vs = [.ref l, .ref t] ∧ Rd H l (.tup (ls.map V.int)) ∧ H t = some (.tup (row.map V.int)) ∧ row.length ≤ 60 ∧ (∀ k ∈ row, 0 ≤ k ∧ k < ls.length) ∧ ∀ H', Same H H' → Q (.bl true) H'
def spSumOf : Sp := fun vs H Q _ => ∃ (l t : Addr) (ls row : List Int), vs = [.ref l, .ref t] ∧ Rd H l (.tup (ls.map V.int)) ∧ H t = some (.tup (row.map V.int)) ∧ row.length ≤ 60 ∧ (∀ k ∈ row, 0 ≤ k ∧ k < ls.length) ∧ ∀ H', Same H H' → Q (.int (sumOf ls row)) H'
def spCheckComers : Sp := fun vs H Q _ => ∃ c : Int, vs = [.int c] ∧ 2 ≤ c ∧ c ≤ 4 ∧ Q .non H
theorem map_get {ns : List Int} {i : Nat} {x : V} (h : (ns.map V.int)[i]? = some x) : ∃ n, ns[i]? = some n ∧ x = V.int n := by
  rw [List.getElem?_map] at h
  cases e : ns[i]? with
  | none => rw [e] at h; cases h
  | some n => rw [e] at h; exact ⟨n, rfl, (Option.some.inj h).symm⟩
section
variable {P : Program} {w : World} {K : PySem.W.Frag} {mg : Str → Option Value} {base : Heap} {f : Addr} {fd : FuncData}
theorem sc_isInteger : FnScope ["thing"] ["thing"] (defScope sIsInteger) := ⟨rfl, rfl, rfl, by decide +kernel, rfl, by decide +kernel, by decide +kernel⟩
theorem ok_isInteger (F : FnP K "is_integer" "is_integer" sIsInteger f fd) (g : mg "is_integer" = some (.ref f)) (T : Txt mg) : Cal P w K mg base 1 "is_integer" ["thing"] spIsInteger := by
  refine ⟨f, fd, ?_, g, F.kp, F.bindsN fun _ _ _ _ _ _ us hl => match us, hl with | [_], _ => rfl⟩
  refine F.ok sc_isInteger (fun vs H Q E h => ?_) (fun cdv A outer s H vs Q E hr h => ?_)
  · obtain ⟨i, rfl, _⟩ := h
    rfl
  · obtain ⟨i, rfl, k⟩ := h
    refine ⟨_, PSs.nox (pss_one (ps_ret (pe_and (pe_callB call_isi (by rfl) T.isinst (by decide +kernel) (pa_cons (pv 0) (pa_cons (pe_bltn (v := .ty "int") (by rfl) T.int boot_int rfl) pa_nil)))
      (pe_one (pe_not (pe_callB call_isi (by rfl) T.isinst (by decide +kernel) (pa_cons (pv 0) (pa_cons (pe_bltn (v := .ty "bool") (by rfl) T.bool (by decide +kernel) rfl) pa_nil)))))))), ?_⟩
    refine ⟨_, rfl, .int i, .ty "int", .type "int", .type "int", true, rfl, .ty "int", .base (.int i), kit_ty (by decide +kernel), true, rfl, iteT ?_⟩
    refine ⟨_, rfl, .int i, .ty "bool", .type "int", .type "bool", false, rfl, .ty "bool", .base (.int i), kit_ty (by decide +kernel), false, rfl, ?_⟩
    exact k
theorem sc_isWithin : FnScope ["thing", "least", "most"] ["thing", "least", "most"] (defScope sIsWithin) := ⟨rfl, rfl, rfl, by decide +kernel, rfl, by decide +kernel, by decide +kernel⟩
theorem ok_isWithin (F : FnP K "is_within" "is_within" sIsWithin f fd) (g : mg "is_within" = some (.ref f)) (T : Txt mg) (C1 : Cal P w K mg base 1 "is_integer" ["thing"] spIsInteger) : Cal P w K mg base 2 "is_within" ["thing", "least", "most"] spIsWithin := by
  obtain ⟨f1, fd1, G1, g1, k1, b1⟩ := C1.ex
  refine ⟨f, fd, ?_, g, F.kp, F.bindsN fun _ _ _ _ _ _ us hl => match us, hl with | [_, _, _], _ => rfl⟩
  refine F.ok sc_isWithin (fun vs H Q E h => ?_) (fun cdv A outer s H vs Q E hr h => ?_)
  · obtain ⟨i, a, b, rfl, _⟩ := h
    rfl
  · obtain ⟨i, a, b, rfl, h1, h2, k⟩ := h
    refine ⟨_, PSs.nox (pss_one (ps_ret (pe_and (pe_call G1 hr rfl g1 k1 b1 .nil pass0 (pa_cons (pv 0) pa_nil)) (pe_one (pe_chain op_le op_le (pv 1) (pv 0) (pv 2)))))), ?_⟩
    refine ⟨_, rfl, i, rfl, true, rfl, iteT ?_⟩
    refine ⟨_, rfl, _, rfl, _, _, rfl, rfl, _, rfl, ?_⟩
    rw [if_pos (decide_eq_true h1)]
    refine ⟨_, rfl, _, _, rfl, rfl, ?_⟩
    show Q (.bl (decide (i ≤ b))) H
    rw [decide_eq_true h2]
    exact k
theorem sc_areWithin : FnScope ["thing", "most", "least", "greatest", "item"] ["thing", "most", "least", "greatest"] (defScope sAreWithin) := ⟨rfl, rfl, rfl, by decide +kernel, rfl, by decide +kernel, by decide +kernel⟩
theorem ok_areWithin (F : FnP K "are_within" "are_within" sAreWithin f fd) (g : mg "are_within" = some (.ref f)) (T : Txt mg) (C1 : Cal P w K mg base 2 "is_within" ["thing", "least", "most"] spIsWithin) :
    Cal P w K mg base 3 "are_within" ["thing", "most", "least", "greatest"] spAreWithin := by
  obtain ⟨f1, fd1, G1, g1, k1, b1⟩ := C1.ex
  refine ⟨f, fd, ?_, g, F.kp, F.bindsN fun _ _ _ _ _ _ us hl => match us, hl with | [_, _, _, _], _ => rfl⟩
  refine F.ok sc_areWithin (fun vs H Q E h => ?_) (fun cdv A outer s H vs Q E hr h => ?_)
  · obtain ⟨t, ns, m, a, b, rfl, _⟩ := h
    rfl
  · obtain ⟨t, ns, m, a, b, rfl, ht, hm, hab, hz, k⟩ := h
    refine ⟨_, PSs.nox (pss_cons (ps_if (PW.pt (pw_or (pt_not (pt_val (pe_callB call_isi (by rfl) T.isinst (by decide +kernel) (pa_cons (pv 0) (pa_cons (pe_bltn (v := .ty "tuple") (by rfl) T.tuple (by decide +kernel) rfl) pa_nil)))))
        (pw_or1 (pt_cmpR op_gt (pe_callB call_len_seq (by rfl) T.len boot_len (pa_cons (pv 0) pa_nil)) (pv 1) (nomark _))))) (pss_one (ps_ret pe_bl)) pss_nil)
      (pss_one (ps_ret (pe_callB (cr_all rfl) (by rfl) T.all (by decide +kernel) (pa_cons
        (pe_lc (own := [("item", 4)]) (g := gName 4) (tt := tYes) rfl sc_areWithin.nd (pi_tup (pv 0)) (blkOk_by (N := ["thing", "most", "least", "greatest", "item"]) (sc := defScope sAreWithin) (own := [("item", 4)]) (by decide +kernel)) (fun _ _ _ _ _ => pg_name (i := 4) sc_areWithin.nd rfl (Or.inl rfl)) (fun _ _ _ _ _ => pts_nil)
          (fun _ _ _ _ _ => pe_call G1 hr rfl g1 k1 b1 .nil pass0 (pa_cons (pv 4) (pa_cons (pv 2) (pa_cons (pv 3) pa_nil))))) pa_nil))))), ?_⟩
    refine ⟨_, rfl, .ref t, .ty "tuple", .type "tuple", .type "tuple", true, rfl, .ty "tuple", tyx_rd ht, kit_ty (by decide +kernel), true, rfl, ?_⟩
    refine iteF ?_
    refine ⟨_, rfl, t, _, rfl, .inr (sqR ht), _, rfl, _, _, rfl, rfl, _, rfl, ?_⟩
    have e1 : decide (m < ((ns.map V.int).length : Int)) = false := decide_eq_false (by rw [List.length_map]; omega)
    rw [e1]
    refine iteF ?_
    refine ⟨_, rfl, t, rfl, ⟨_, sqR ht⟩, fun D hD => ?_⟩
    refine lc_tup (K := K) (a := t) (xs := ns.map V.int) (fun i H' => Same H H' ∧ H' D = some (.lst (List.replicate i (V.bl true)))) ⟨same_new hD, upd_same⟩ (fun i H' _ h' => sqR (ht.s h'.1)) (fun i x H' hi h' => ?_) (fun H' h' => ?_)
    · obtain ⟨n, hn, rfl⟩ := map_get hi
      have hm := hab n (List.mem_of_getElem? hn)
      have il : i < ns.length := (List.getElem?_eq_some_iff.mp hn).1
      refine ⟨rfl, ?_⟩
      refine ⟨_, rfl, _, rfl, _, rfl, n, a, b, rfl, hm.1, hm.2, _, h'.2, small_line (by rw [List.length_replicate]; omega), same_set h'.1 hD, ?_⟩
      rw [upd_same, ← List.replicate_succ']
    · refine ⟨D, List.replicate ns.length true, rfl, SqL.of ?_, ?_⟩
      · rw [List.map_replicate, h'.2, List.length_map]
      · have e2 : (List.replicate ns.length true).all id = true := List.all_eq_true.mpr fun x hx => by
          rw [List.eq_of_mem_replicate hx]
          rfl
        rw [e2]
        exact k _ h'.1
end
end K9

set_option Elab.async false
set_option linter.all false
set_option maxRecDepth 100000
set_option maxHeartbeats 4000000
/-! is_loops, is_row, sum_of, check_comers. -/
namespace K9
open PySem PySem.Spec PyProof.Rows L2
open PySem.W (EachIs)
theorem lenAt {ls : List Int} {k : Int} (h : 0 ≤ k ∧ k < ls.length) : atI (ls.map V.int) k = some (V.int (len ls k)) := by
  have hk : k.toNat < ls.length := by omega
  refine at_of (j := k.toNat) (by omega) ?_
  unfold len
  rw [List.getElem?_map, List.getD_eq_getElem?_getD, List.getElem?_eq_getElem hk]
  rfl
section
variable {P : Program} {w : World} {K : PySem.W.Frag} {mg : Str → Option Value} {base : Heap} {f : Addr} {fd : FuncData}
theorem sc_isLoops : FnScope ["thing"] ["thing"] (defScope sIsLoops) := ⟨rfl, rfl, rfl, by decide +kernel, rfl, by decide +kernel, by decide +kernel⟩
theorem ok_isLoops (F : FnP K "is_loops" "is_loops" sIsLoops f fd) (g : mg "is_loops" = some (.ref f)) (T : Txt mg) (C1 : Cal P w K mg base 3 "are_within" ["thing", "most", "least", "greatest"] spAreWithin) : Cal P w K mg base 4 "is_loops" ["thing"] spIsLoops := by
  obtain ⟨f1, fd1, G1, g1, k1, b1⟩ := C1.ex
  obtain ⟨t1, e1⟩ := T.ml
  obtain ⟨t2, e2⟩ := T.mn
  refine ⟨f, fd, ?_, g, F.kp, F.bindsN fun _ _ _ _ _ _ us hl => match us, hl with | [_], _ => rfl⟩
  refine F.ok sc_isLoops (fun vs H Q E h => ?_) (fun cdv A outer s H vs Q E hr h => ?_)
  · obtain ⟨t, ls, rfl, _⟩ := h
    rfl
  · obtain ⟨t, ls, rfl, ht, L, k⟩ := h
    refine ⟨_, PSs.nox (pss_one (ps_ret (pe_and (pe_call G1 hr rfl g1 k1 b1 .nil pass0 (pa_cons (pv 0) (pa_cons (pe_glob (v := .int 8) rfl e1 ⟨t1, rfl⟩) (pa_cons pe_int (pa_cons (pe_glob (v := .int 40) rfl e2 ⟨t2, rfl⟩) pa_nil)))))
      (pe_one (pe_cmpR op_gt (pe_callB call_len_seq (by rfl) T.len boot_len (pa_cons (pv 0) pa_nil)) pe_int (nomark _)))))), ?_⟩
    have hl := L.len
    refine ⟨_, rfl, t, ls, 8, 1, 40, rfl, ht, by omega, L.rng, by omega, fun H' s' => ⟨true, rfl, iteT ?_⟩⟩
    refine ⟨_, rfl, t, _, rfl, .inr (sqR (ht.s s')), _, _, rfl, rfl, ?_⟩
    show Q (.bl (decide ((0 : Int) < ((ls.map V.int).length : Int)))) H'
    rw [decide_eq_true (by rw [List.length_map]; exact Int.ofNat_lt.mpr L.pos)]
    exact k H' s'
theorem sc_isRow : FnScope ["loops", "thing"] ["loops", "thing"] (defScope sIsRow) := ⟨rfl, rfl, rfl, by decide +kernel, rfl, by decide +kernel, by decide +kernel⟩
theorem ok_isRow (F : FnP K "is_row" "is_row" sIsRow f fd) (g : mg "is_row" = some (.ref f)) (T : Txt mg) (C1 : Cal P w K mg base 3 "are_within" ["thing", "most", "least", "greatest"] spAreWithin) : Cal P w K mg base 4 "is_row" ["loops", "thing"] spIsRow := by
  obtain ⟨f1, fd1, G1, g1, k1, b1⟩ := C1.ex
  obtain ⟨t1, e1⟩ := T.mi
  refine ⟨f, fd, ?_, g, F.kp, F.bindsN fun _ _ _ _ _ _ us hl => match us, hl with | [_, _], _ => rfl⟩
  refine F.ok sc_isRow (fun vs H Q E h => ?_) (fun cdv A outer s H vs Q E hr h => ?_)
  · obtain ⟨l, t, ls, row, rfl, _⟩ := h
    rfl
  · obtain ⟨l, t, ls, row, rfl, hl, ht, h60, hk, k⟩ := h
    refine ⟨_, PSs.nox (pss_one (ps_ret (pe_call G1 hr rfl g1 k1 b1 .nil pass0 (pa_cons (pv 1) (pa_cons (pe_glob (v := .int 60) rfl e1 ⟨t1, rfl⟩) (pa_cons pe_int
      (pa_cons (pe_op op_sub (pe_callB call_len_seq (by rfl) T.len boot_len (pa_cons (pv 0) pa_nil)) pe_int) pa_nil))))))), ?_⟩
    refine ⟨_, rfl, _, rfl, l, _, rfl, .inr (sqR hl), _, _, rfl, rfl, ?_⟩
    refine ⟨t, row, 60, 0, _, rfl, Rd.of ht, by omega, fun n hn => ?_, by omega, k⟩
    have q := hk n hn
    rw [List.length_map]
    omega
theorem sc_sumOf : FnScope ["loops", "row", "loop"] ["loops", "row"] (defScope sSumOf) := ⟨rfl, rfl, rfl, by decide +kernel, rfl, by decide +kernel, by decide +kernel⟩
theorem ok_sumOf (F : FnP K "sum_of" "sum_of" sSumOf f fd) (g : mg "sum_of" = some (.ref f)) (T : Txt mg) : Cal P w K mg base 1 "sum_of" ["loops", "row"] spSumOf := by
  refine ⟨f, fd, ?_, g, F.kp, F.bindsN fun _ _ _ _ _ _ us hl => match us, hl with | [_, _], _ => rfl⟩
  refine F.ok sc_sumOf (fun vs H Q E h => ?_) (fun cdv A outer s H vs Q E hr h => ?_)
  · obtain ⟨l, t, ls, row, rfl, _⟩ := h
    rfl
  · obtain ⟨l, t, ls, row, rfl, hl, ht, h60, hk, k⟩ := h
    refine ⟨_, PSs.nox (pss_one (ps_ret (pe_callB (cr_sum rfl) (by rfl) T.sum (by decide +kernel) (pa_cons
      (pe_lc (own := [("loop", 2)]) (g := gName 2) (tt := tYes) rfl sc_sumOf.nd (pi_tup (pv 1)) (blkOk_by (N := ["loops", "row", "loop"]) (sc := defScope sSumOf) (own := [("loop", 2)]) (by decide +kernel)) (fun _ _ _ _ _ => pg_name (i := 2) sc_sumOf.nd rfl (Or.inl rfl)) (fun _ _ _ _ _ => pts_nil)
          (fun _ _ _ _ _ => pe_ix (r := rIxT K) ix_tup (pv 0) (pv 2) (fun _ _ => rfl))) pa_nil)))), ?_⟩
    refine ⟨_, rfl, t, rfl, ⟨_, SqT.of ht⟩, fun D hD => ?_⟩
    refine lc_tup (K := K) (a := t) (xs := row.map V.int) (fun i H' => Same H H' ∧ H' D = some (.lst (((row.take i).map (len ls)).map V.int))) ⟨same_new hD, upd_same⟩ (fun i H' _ h' => .inl (.inl (h'.1 _ _ ht))) (fun i x H' hi h' => ?_) (fun H' h' => ?_)
    · obtain ⟨n, hn, rfl⟩ := map_get hi
      have il : i < row.length := (List.getElem?_eq_some_iff.mp hn).1
      refine ⟨rfl, ?_⟩
      refine ⟨_, rfl, _, rfl, l, _, n, _, rfl, rfl, sqR (hl.s h'.1), lenAt (hk n (List.mem_of_getElem? hn)), _, h'.2, small_line ?_, same_set h'.1 hD, ?_⟩
      · rw [List.length_map, List.length_map, List.length_take]
        omega
      · rw [upd_same, takeS hn, List.map_append, List.map_append]
        rfl
    · rw [List.length_map, List.take_length] at h'
      exact ⟨D, _, rfl, SqL.of h'.2, k _ h'.1⟩
theorem sc_checkComers : FnScope ["thing"] ["thing"] (defScope sCheckComers) := ⟨rfl, rfl, rfl, by decide +kernel, rfl, by decide +kernel, by decide +kernel⟩
theorem ok_checkComers (F : FnP K "check_comers" "check_comers" sCheckComers f fd) (g : mg "check_comers" = some (.ref f)) (T : Txt mg) (C1 : Cal P w K mg base 2 "is_within" ["thing", "least", "most"] spIsWithin) : Cal P w K mg base 3 "check_comers" ["thing"] spCheckComers := by
  obtain ⟨f1, fd1, G1, g1, k1, b1⟩ := C1.ex
  obtain ⟨t1, e1⟩ := T.lc
  obtain ⟨t2, e2⟩ := T.mc
  refine ⟨f, fd, ?_, g, F.kp, F.bindsN fun _ _ _ _ _ _ us hl => match us, hl with | [_], _ => rfl⟩
  refine F.ok sc_checkComers (fun vs H Q E h => ?_) (fun cdv A outer s H vs Q E hr h => ?_)
  · obtain ⟨c, rfl, _⟩ := h
    rfl
  · obtain ⟨c, rfl, h1, h2, k⟩ := h
    refine ⟨_, PSs.nox (pss_one (ps_if (pt_not (pt_val (pe_call G1 hr rfl g1 k1 b1 .nil pass0 (pa_cons (pv 0) (pa_cons (pe_glob (v := .int 2) rfl e1 ⟨t1, rfl⟩) (pa_cons (pe_glob (v := .int 4) rfl e2 ⟨t2, rfl⟩) pa_nil)))))) (pss_one ps_never) pss_nil)), ?_⟩
    exact ⟨_, rfl, c, 2, 4, rfl, h1, h2, true, rfl, k⟩
end
end K9

set_option Elab.async false
set_option linter.all false
set_option maxRecDepth 100000
set_option maxHeartbeats 4000000
/-! entries_of. -/
namespace K9
open PySem PySem.Spec PyProof.Rows L2
open PySem.W (EachIs)
def spEntriesOf : Sp := fun vs H Q _ => ∃ (l t : Addr) (ls row : List Int), vs = [.ref l, .ref t] ∧ Rd H l (.tup (ls.map V.int)) ∧ H t = some (.tup (row.map V.int)) ∧ row.length ≤ 60 ∧ (∀ k ∈ row, 0 ≤ k ∧ k < ls.length) ∧
  ∀ p H', Same H H' → H p = none → LE H' p (ents ls row) → Q (.ref p) H'
/-- the list at D holds es, in a heap that keeps all of H -/
def Grow (H : Hp) (D : Addr) (es : List Ent) (H' : Hp) : Prop := Same H H' ∧ LE H' D es
theorem Grow.snoc {H H' : Hp} {D T : Addr} {es : List Ent} {xs : List V} {e : Ent} (s : Same H H') (hD0 : H D = none) (hD : H' D = some (.lst xs)) (he : EachIs (RE H') xs es) (hT : H' T = none) :
    Grow H D (es ++ [e]) (upd (upd H' T (.tup [.int e.1, .int e.2.1, .int e.2.2])) D (.lst (xs ++ [.ref T]))) := by
  have dt : D ≠ T := ne_of_none hD hT
  have h2 : (upd H' T (.tup [.int e.1, .int e.2.1, .int e.2.2])) D = some (.lst xs) := by
    rw [upd_ne dt]
    exact hD
  refine ⟨same_set (s.trans (same_new hT)) hD0, _, upd_same, each_snoc (EachIs.ts_RE ((ts_set (nt_non hT)).trans (ts_set (nt_lst h2))) he) ⟨T, rfl, ?_⟩⟩
  rw [upd_ne (Ne.symm dt), upd_same]
section
variable {P : Program} {w : World} {K : PySem.W.Frag} {mg : Str → Option Value} {base : Heap} {f : Addr} {fd : FuncData}
theorem sc_entriesOf : FnScope ["loops", "row", "left", "gone", "found", "loop"] ["loops", "row"] (defScope sEntriesOf) := ⟨rfl, rfl, rfl, by decide +kernel, rfl, by decide +kernel, by decide +kernel⟩
theorem ok_entriesOf (F : FnP K "entries_of" "entries_of" sEntriesOf f fd) (g : mg "entries_of" = some (.ref f)) (T : Txt mg) (C1 : Cal P w K mg base 1 "sum_of" ["loops", "row"] spSumOf) : Cal P w K mg base 2 "entries_of" ["loops", "row"] spEntriesOf := by
  obtain ⟨f1, fd1, G1, g1, k1, b1⟩ := C1.ex
  refine ⟨f, fd, ?_, g, F.kp, F.bindsN fun _ _ _ _ _ _ us hl => match us, hl with | [_, _], _ => rfl⟩
  refine F.ok sc_entriesOf (fun vs H Q E h => ?_) (fun cdv A outer s H vs Q E hr h => ?_)
  · obtain ⟨l, t, ls, row, rfl, _⟩ := h
    rfl
  · obtain ⟨l, t, ls, row, rfl, hl, ht, h60, hk, k⟩ := h
    have nd := sc_entriesOf.nd
    refine ⟨_, PSs.nox (pss_cons (ps_set (i := 2) nd rfl (Or.inl rfl) (pe_call G1 hr rfl g1 k1 b1 .nil pass0 (pa_cons (pv 0) (pa_cons (pv 1) pa_nil))))
      (pss_cons (ps_set (i := 3) nd rfl (Or.inl rfl) pe_int)
      (pss_cons (ps_set (i := 4) nd rfl (Or.inl rfl) (pe_lst pa_nil))
      (pss_cons (ps_for PassesOwn.never rfl (pi_tup (pv 1)) (pg_name (i := 5) nd rfl (Or.inl rfl))
        (pss_cons (ps_expr (pe_bm PySem.F.plainAttrs_list PySem.F.slot_list_append PySem.F.type_list_append mt_append (pv 4) (pa_cons (pe_tup (pa_cons (pv 5) (pa_cons (pv 3) (pa_cons (pv 2) pa_nil)))) pa_nil)))
        (pss_cons (ps_aug (i := 3) nd rfl (Or.inl rfl) (pe_ix ix_tup (pv 0) (pv 5) (fun _ _ => rfl)) ip_add)
        (pss_one (ps_aug (i := 2) nd rfl (Or.inl rfl) (pe_ix ix_tup (pv 0) (pv 5) (fun _ _ => rfl)) ip_sub)))))
      (pss_one (ps_ret (pv 4))))))), ?_⟩
    refine ⟨_, rfl, _, rfl, l, t, ls, row, rfl, hl, ht, h60, hk, fun H1 s1 => ?_⟩
    refine ⟨Nat.zero_le _, fun D hD => ?_⟩
    refine ⟨_, rfl, t, rfl, ⟨_, SqT.of ((s1.trans (same_new hD)) _ _ ht)⟩, for_tup (K := K) (a := t) (xs := row.map V.int)
      (fun i σ H' => ∃ v, σ = [some (.ref l), some (.ref t), some (.int (sumOf ls row - (efold ls (sumOf ls row) (row.take i)).1)), some (.int (efold ls (sumOf ls row) (row.take i)).1), some (.ref D), v] ∧ Grow H1 D (efold ls (sumOf ls row) (row.take i)).2 H')
      ⟨none, ?_, same_new hD, [], upd_same, .nil⟩ (fun i σ H' _ h' => ?_) (fun i x σ H' hi h' => ?_) (fun σ H' h' => ?_)⟩
    · show _ = [some (V.ref l), some (V.ref t), some (V.int (sumOf ls row - 0)), some (V.int 0), some (V.ref D), none]
      rw [Int.sub_zero]
      rfl
    · obtain ⟨v, _, s', _⟩ := h'
      exact SqT.of (s' _ _ (s1 _ _ ht))
    · obtain ⟨v, rfl, s', xs, hx, he⟩ := h'
      obtain ⟨n, hn, rfl⟩ := map_get hi
      have il : i < row.length := (List.getElem?_eq_some_iff.mp hn).1
      have xl : xs.length ≤ i := by
        rw [he.length]
        exact efold_take_len ls _ row i
      refine ⟨_, rfl, .inl ⟨rfl, _, SqL.of hx⟩, _, rfl, _, rfl, _, rfl, by show 3 ≤ sizeLine; decide, fun T hT => ?_⟩
      have dt : D ≠ T := ne_of_none hx hT
      refine ⟨D, xs, .ref T, rfl, rfl, by rw [upd_ne dt]; exact hx, small_line (by omega), ?_⟩
      have gr := Grow.snoc (e := (n, (efold ls (sumOf ls row) (row.take i)).1, sumOf ls row - (efold ls (sumOf ls row) (row.take i)).1)) s' hD hx he hT
      have hl2 := (hl.s s1).s gr.1
      have hk1 := lenAt (hk n (List.mem_of_getElem? hn))
      refine ⟨_, rfl, _, rfl, _, rfl, l, _, n, _, rfl, rfl, sqR hl2, hk1, _, _, rfl, rfl, ?_⟩
      refine ⟨_, rfl, _, rfl, _, rfl, l, _, n, _, rfl, rfl, sqR hl2, hk1, _, _, rfl, rfl, ?_⟩
      have fs : efold ls (sumOf ls row) (row.take (i + 1)) = estep ls (sumOf ls row) (efold ls (sumOf ls row) (row.take i)) n := foldS _ _ hn
      refine ⟨some (.int n), ?_, ?_⟩
      · rw [fs]
        show [some (V.ref l), some (V.ref t), some (V.int (sumOf ls row - (efold ls (sumOf ls row) (row.take i)).1 - len ls n)), some (V.int ((efold ls (sumOf ls row) (row.take i)).1 + len ls n)), some (V.ref D), some (V.int n)] = [some (V.ref l), some (V.ref t), some (V.int (sumOf ls row - ((efold ls (sumOf ls row) (row.take i)).1 + len ls n))), some (V.int ((efold ls (sumOf ls row) (row.take i)).1 + len ls n)), some (V.ref D), some (V.int n)]
        rw [Int.sub_sub]
      · rw [fs]
        exact gr
    · obtain ⟨v, rfl, s', hx⟩ := h'
      rw [List.length_map, List.take_length] at hx
      exact ⟨_, rfl, k D H' (s1.trans s') (s1.free hD) hx⟩
end
end K9

set_option Elab.async false
set_option linter.all false
set_option maxRecDepth 100000
set_option maxHeartbeats 4000000
/-! Table.__init__, Table.entries_at. -/
namespace K9
open PySem PySem.Spec PyProof.Rows L2
open PySem.W (EachIs)
/-- the rows' tuple at r -/
def RowsAt (H : Hp) (r : Addr) (rws : List (List Int)) : Prop := ∃ rs, H r = some (.tup rs) ∧ EachIs (RI H) rs rws
theorem RowsAt.ts {H H' : Hp} {r : Addr} {rws : List (List Int)} (t : TS H H') (h : RowsAt H r rws) : RowsAt H' r rws := let ⟨rs, h1, h2⟩ := h; ⟨rs, t _ _ h1, EachIs.ts_RI t h2⟩
def spInit (C : Addr) : Sp := fun vs H Q _ => ∃ (p dx l r : Addr) (ls : List Int) (rws : List (List Int)), vs = [.ref p, .ref l, .ref r] ∧ H p = some (.ins C dx []) ∧ Rd H l (.tup (ls.map V.int)) ∧ RowsAt H r rws ∧ LoopsOk ls ∧ RowsOk ls rws ∧
  ∀ H', (∀ b o, H b = some o → b ≠ p → H' b = some o) → TableAt C H' p ls rws → Q .non H'
def spEntriesAt (C : Addr) : Sp := fun vs H Q _ => ∃ (p : Addr) (ls : List Int) (rws : List (List Int)) (i : Nat) (es : List Ent), vs = [.ref p, .int (i : Nat)] ∧ TableAt C H p ls rws ∧ (([] : List Ent) :: rws.map (ents ls))[i]? = some es ∧ ∀ a, LE H a es → Q (.ref a) H
/-- an entries' list apart from D -/
def RLn (D : Addr) (H : Hp) (v : V) (es : List Ent) : Prop := ∃ a, v = .ref a ∧ a ≠ D ∧ LE H a es
theorem LE.set {H : Hp} {a D : Addr} {es : List Ent} {o : HO} (h : LE H a es) (ne : a ≠ D) (t : ∀ xs, H D ≠ some (.tup xs)) : LE (upd H D o) a es := by
  obtain ⟨xs, h1, h2⟩ := h
  exact ⟨xs, by rw [upd_ne ne]; exact h1, EachIs.ts_RE (ts_set t) h2⟩
theorem nt_ins {H : Hp} {p C dx : Addr} {fs : List (Str × V)} (h : H p = some (.ins C dx fs)) : ∀ xs, H p ≠ some (.tup xs) := fun xs e => by
  rw [h] at e
  cases e
theorem LE.ne_ins {H : Hp} {a p C dx : Addr} {es : List Ent} {fs : List (Str × V)} (h : LE H a es) (hp : H p = some (.ins C dx fs)) : a ≠ p := by
  obtain ⟨xs, h1, _⟩ := h
  exact ne_of h1 hp (by intro z; cases z)
section
variable {P : Program} {w : World} {K : PySem.W.Frag} {mg : Str → Option Value} {base : Heap} {f : Addr} {fd : FuncData} {C : Addr}
theorem sc_init : FnScope ["self", "loops", "rows", "at", "row"] ["self", "loops", "rows"] (defScope sInit) := ⟨rfl, rfl, rfl, by decide +kernel, rfl, by decide +kernel, by decide +kernel⟩
theorem ok_init (F : FnP K "__init__" "Table.__init__" sInit f fd) (T : Txt mg) (L : Cls1 K C) (C1 : Cal P w K mg base 4 "is_loops" ["thing"] spIsLoops) (C2 : Cal P w K mg base 4 "is_row" ["loops", "thing"] spIsRow) (C3 : Cal P w K mg base 1 "sum_of" ["loops", "row"] spSumOf)
    (C4 : Cal P w K mg base 2 "entries_of" ["loops", "row"] spEntriesOf) : FnOk P w K mg base CX0 5 f fd ["self", "loops", "rows"] (spInit C) := by
  obtain ⟨f1, fd1, G1, g1, k1, b1⟩ := C1.ex
  obtain ⟨f2, fd2, G2, g2, k2, b2⟩ := C2.ex
  obtain ⟨f3, fd3, G3, g3, k3, b3⟩ := C3.ex
  obtain ⟨f4, fd4, G4, g4, k4, b4⟩ := C4.ex
  obtain ⟨t1, e1⟩ := T.mb
  refine F.ok sc_init (fun vs H Q E h => ?_) (fun cdv A outer s H vs Q E hr h => ?_)
  · obtain ⟨p, dx, l, r, ls, rws, rfl, _⟩ := h
    rfl
  · obtain ⟨p, dx, l, r, ls, rws, rfl, hp, hl, ⟨rs, hr1, hrs⟩, LO, RO, k⟩ := h
    have nd := sc_init.nd
    refine ⟨_, PSs.nox (pss_cons (ps_if (pt_not (pt_val (pe_call G1 hr rfl g1 k1 b1 .nil pass0 (pa_cons (pv 1) pa_nil)))) (pss_one ps_never) pss_nil)
      (pss_cons (ps_if (PW.pt (pw_or (pt_not (pt_val (pe_callB call_isi (by rfl) T.isinst (by decide +kernel) (pa_cons (pv 2) (pa_cons (pe_bltn (v := .ty "tuple") (by rfl) T.tuple (by decide +kernel) rfl) pa_nil)))))
          (pw_or1 (pt_not (pt_chain op_le op_le pe_int (pe_callB call_len_seq (by rfl) T.len boot_len (pa_cons (pv 2) pa_nil)) (pe_glob (v := .int 60) rfl e1 ⟨t1, rfl⟩)))))) (pss_one ps_never) pss_nil)
      (pss_cons (ps_for PassesOwn.never rfl (pi_enumT (by rfl) T.enum (pa_cons (pv 2) pa_nil)) (pg_tup rfl (pgs_cons (pg_name (i := 3) nd rfl (Or.inl rfl)) (pgs_cons (pg_name (i := 4) nd rfl (Or.inl rfl)) pgs_nil)))
        (pss_one (ps_if (PW.pt (pw_or (pt_not (pt_val (pe_call G2 hr rfl g2 k2 b2 .nil pass0 (pa_cons (pv 1) (pa_cons (pv 4) pa_nil)))))
          (pw_or1 (pt_cmpR op_ne (pe_call G3 (hr.mono (by decide)) rfl g3 k3 b3 .nil pass0 (pa_cons (pv 1) (pa_cons (pv 4) pa_nil))) (pe_op op_add (pv 3) pe_int) (nomark _))))) (pss_one ps_never) pss_nil)))
      (pss_cons (ps_fld (pv 0) (pv 1) rfl)
      (pss_cons (ps_fld (pv 0) (pv 2) rfl)
      (pss_cons (ps_fld (pv 0) (pe_callB call_len_seq (by rfl) T.len boot_len (pa_cons (pv 2) pa_nil)) rfl)
      (pss_one (ps_fld (pv 0) (pe_op op_cat (pe_lst (pa_cons (pe_lst pa_nil) pa_nil))
        (pe_lc (own := [("row", 4)]) (g := gName 4) (tt := tYes) rfl nd (pi_tup (pv 2)) (blkOk_by (N := ["self", "loops", "rows", "at", "row"]) (sc := defScope sInit) (own := [("row", 4)]) (by decide +kernel)) (fun _ _ _ _ _ => pg_name (i := 4) nd rfl (Or.inl rfl)) (fun _ _ _ _ _ => pts_nil)
          (fun _ _ _ _ _ => pe_call G4 (hr.mono (by decide)) rfl g4 k4 b4 .nil pass0 (pa_cons (pv 1) (pa_cons (pv 4) pa_nil))))) rfl)))))))), ?_⟩
    have rl : rs.length = rws.length := hrs.length
    have rp := RO.pos
    have rm := RO.len
    -- is_loops
    refine ⟨_, rfl, l, ls, rfl, hl, LO, fun H1 s1 => ⟨true, rfl, ?_⟩⟩
    refine iteF ?_
    -- isinstance, the number of rows
    refine ⟨_, rfl, .ref r, .ty "tuple", .type "tuple", .type "tuple", true, rfl, .ty "tuple", .base (.tup (s1 _ _ hr1)), kit_ty (by decide +kernel), true, rfl, ?_⟩
    refine iteF ?_
    refine ⟨_, rfl, r, _, rfl, .inr (SqT.of (s1 _ _ hr1)), _, _, rfl, rfl, _, rfl, ?_⟩
    rw [if_pos (decide_eq_true (show (1 : Int) ≤ (rs.length : Int) by omega))]
    refine ⟨_, _, rfl, rfl, _, rfl, ?_⟩
    have z1 : decide ((rs.length : Int) ≤ 60) = true := decide_eq_true (by omega)
    rw [z1]
    refine iteF ?_
    -- each row
    refine ⟨_, rfl, r, rs, rfl, SqT.of (s1 _ _ hr1), for_enumT (K := K) (a := r) (xs := rs) (fun i σ H' => ∃ v u, σ = [some (.ref p), some (.ref l), some (.ref r), v, u] ∧ Same H H') ⟨none, none, rfl, s1⟩ (fun i σ H' _ h' => ?_) (fun i x T σ H' hi h' hT => ?_) (fun σ H2 h' => ?_)⟩
    · obtain ⟨_, _, _, s'⟩ := h'
      exact SqT.of (s' _ _ hr1)
    · obtain ⟨v, u, rfl, s'⟩ := h'
      obtain ⟨row, hrow, a, rfl, ha⟩ := each_get hrs hi
      have ok := RO.row i row hrow
      have s2 : Same H (upd H' T (.tup [.int (i : Nat), .ref a])) := s'.trans (same_new hT)
      refine ⟨T, _, rfl, SqT.of upd_same, rfl, _, _, rfl, _, _, rfl, rfl, ?_⟩
      refine ⟨_, rfl, _, rfl, l, a, ls, row, rfl, hl.s s2, s2 _ _ ha, ok.len, ok.rng, fun H3 s3 => ⟨true, rfl, ?_⟩⟩
      refine iteF ?_
      refine ⟨_, rfl, _, rfl, l, a, ls, row, rfl, (hl.s s2).s s3, s3 _ _ (s2 _ _ ha), ok.len, ok.rng, fun H4 s4 => ⟨_, rfl, _, _, rfl, rfl, rfl, _, rfl, ?_⟩⟩
      refine iteNS (congrArg V.int ok.sum) ?_
      exact ⟨_, _, rfl, (s2.trans s3).trans s4⟩
    · obtain ⟨v, u, rfl, s2⟩ := h'
      -- the fields
      refine ⟨_, rfl, _, rfl, p, C, dx, [], rfl, s2 _ _ hp, L.cl, L.n1, (by show 0 < 1000; decide), ?_⟩
      refine ⟨_, rfl, _, rfl, p, C, dx, _, rfl, upd_same, L.cl, L.n2, (by show 1 < 1000; decide), ?_⟩
      rw [upd_upd]
      have kp : ∀ (o : HO) (b : Addr) (u : HO), H b = some u → b ≠ p → (upd H2 p o) b = some u := fun o b u e n => by
        rw [upd_ne n]
        exact s2 b u e
      have np : ∀ {b : Addr} {xs : List V}, H b = some (.tup xs) → b ≠ p := fun {b xs} e => ne_of e hp (by intro z; cases z)
      refine ⟨_, rfl, r, _, rfl, .inr (SqT.of (kp _ _ _ hr1 (np hr1))), ?_⟩
      refine ⟨_, rfl, p, C, dx, _, rfl, upd_same, L.cl, L.n3, (by show 2 < 1000; decide), ?_⟩
      rw [upd_upd, rl]
      generalize hfs : putF ("bound" : Str) (V.int (rws.length : Nat)) (putF ("rows" : Str) (V.ref r) (putF ("loops" : Str) (V.ref l) [])) = fs
      have fl : fs.length < 1000 := by
        rw [← hfs]
        show 3 < 1000
        decide
      have lb : fs.lookup ("bound" : Str) = some (.int (rws.length : Nat)) := by
        rw [← hfs, lookup_putF, if_pos rfl]
      have la : fs.lookup ("entries_at" : Str) = none := by
        rw [← hfs, lookup_putF, if_neg (by decide +kernel), lookup_putF, if_neg (by decide +kernel), lookup_putF, if_neg (by decide +kernel)]
        rfl
      have hp5 : (upd H2 p (.ins C dx fs)) p = some (.ins C dx fs) := upd_same
      have kp5 := kp (.ins C dx fs)
      generalize upd H2 p (.ins C dx fs) = H5 at hp5 kp5 ⊢
      -- [[]] + [..]
      refine ⟨Nat.zero_le _, fun e0 he0 => ⟨by show 1 ≤ sizeLine; decide, fun D1 hD1 => ?_⟩⟩
      have ne1 : e0 ≠ D1 := fun z => by
        rw [← z, upd_same] at hD1
        cases hD1
      have hD1' : H5 D1 = none := by
        rw [upd_ne (Ne.symm ne1)] at hD1
        exact hD1
      have s6 : Same H5 (upd (upd H5 e0 (.lst [])) D1 (.lst [.ref e0])) := (same_new he0).trans (same_new hD1)
      have h6e : (upd (upd H5 e0 (.lst [])) D1 (.lst [.ref e0])) e0 = some (.lst []) := by
        rw [upd_ne ne1, upd_same]
      have h6d : (upd (upd H5 e0 (.lst [])) D1 (.lst [.ref e0])) D1 = some (.lst [.ref e0]) := upd_same
      generalize upd (upd H5 e0 (.lst [])) D1 (.lst [.ref e0]) = H6 at s6 h6e h6d ⊢
      have hl6 : Rd H6 l (.tup (ls.map V.int)) := (hl.but hp kp5).s s6
      have hr6 : H6 r = some (.tup rs) := s6 _ _ (kp5 _ _ hr1 (np hr1))
      have hrs6 : EachIs (RI H6) rs rws := hrs.mono fun x row ⟨a, e, ha⟩ => ⟨a, e, s6 _ _ (kp5 _ _ ha (np ha))⟩
      refine ⟨_, rfl, r, rfl, ⟨_, SqT.of hr6⟩, fun D hD => ?_⟩
      refine lc_tup (K := K) (a := r) (xs := rs) (fun i H' => Same H6 H' ∧ ∃ ks, H' D = some (.lst ks) ∧ EachIs (RLn D H') ks ((rws.take i).map (ents ls))) ⟨same_new hD, [], upd_same, .nil⟩ (fun i H' _ h' => SqT.of (h'.1 _ _ hr6)) (fun i x H' hi h' => ?_) (fun H7 h' => ?_)
      · obtain ⟨s', ks, hks, eks⟩ := h'
        obtain ⟨row, hrow, a, rfl, ha⟩ := each_get hrs6 hi
        have ok := RO.row i row hrow
        have il : i < rs.length := (List.getElem?_eq_some_iff.mp hi).1
        refine ⟨rfl, ?_⟩
        refine ⟨_, rfl, _, rfl, l, a, ls, row, rfl, hl6.s s', s' _ _ ha, ok.len, ok.rng, fun q H8 s8 hq LEq => ?_⟩
        have nq : q ≠ D := (ne_of_none hks hq).symm
        have h8 : H8 D = some (.lst ks) := s8 _ _ hks
        refine ⟨ks, h8, small_line ?_, same_set (s'.trans s8) hD, _, upd_same, ?_⟩
        · rw [eks.length, List.length_map, List.length_take]
          omega
        · rw [takeS hrow, List.map_append]
          refine each_snoc (eks.mono fun v es ⟨b, e, n, le⟩ => ⟨b, e, n, (le.fra (Fra.of s8)).set n (nt_lst h8)⟩) ⟨q, rfl, nq, LEq.set nq (nt_lst h8)⟩
      · obtain ⟨s7, ks, hks, eks⟩ := h'
        have lk : ks.length = rws.length := by
          rw [eks.length, List.length_map, rl, List.take_length]
        refine ⟨D1, D, _, ks, rfl, rfl, s7 _ _ h6d, hks, small_line' (by show 1 + ks.length ≤ 16777216; omega), fun ka hka => ?_⟩
        have hp8 : (upd H7 ka (.lst ([V.ref e0] ++ ks))) p = some (.ins C dx fs) := same_new hka _ _ (s7 _ _ (s6 _ _ hp5))
        refine ⟨_, rfl, p, C, dx, fs, rfl, hp8, L.cl, L.n4, fl, ?_⟩
        have npk : ka ≠ p := (ne_of_none (s7 _ _ (s6 _ _ hp5)) hka).symm
        refine k _ (fun b o e n => ?_) ⟨dx, ka, _, [V.ref e0] ++ ks, upd_same, ?_, ?_, ?_, ?_, ?_⟩
        · rw [upd_ne n]
          exact same_new hka _ _ (s7 _ _ (s6 _ _ (kp5 _ _ e n)))
        · rw [lookup_putF, if_neg (by decide +kernel)]
          exact lb
        · rw [lookup_putF, if_pos rfl]
        · rw [lookup_putF, if_neg (by decide +kernel)]
          exact la
        · rw [upd_ne npk, upd_same]
        · have mv : ∀ {b : Addr} {es : List Ent}, LE H7 b es → LE (upd (upd H7 ka (.lst ([V.ref e0] ++ ks))) p (.ins C dx (putF ("kept_entries" : Str) (V.ref ka) fs))) b es := fun {b es} le => by
            have le2 := le.fra (Fra.of (same_new (o := .lst ([V.ref e0] ++ ks)) hka))
            exact le2.set (le2.ne_ins hp8) (nt_ins hp8)
          rw [rl, List.take_length] at eks
          exact .cons ⟨e0, rfl, mv ⟨[], s7 _ _ h6e, .nil⟩⟩ (eks.mono fun v es ⟨b, e, _, le⟩ => ⟨b, e, mv le⟩)
theorem sc_entriesAt : FnScope ["self", "wait"] ["self", "wait"] (defScope sEntriesAt) := ⟨rfl, rfl, rfl, by decide +kernel, rfl, by decide +kernel, by decide +kernel⟩
theorem ok_entriesAt (F : FnP K "entries_at" "Table.entries_at" sEntriesAt f fd) (L : Cls1 K C) : FnOk P w K mg base CX0 1 f fd ["self", "wait"] (spEntriesAt C) := by
  refine F.ok sc_entriesAt (fun vs H Q E h => ?_) (fun cdv A outer s H vs Q E hr h => ?_)
  · obtain ⟨p, ls, rws, i, es, rfl, _⟩ := h
    rfl
  · obtain ⟨p, ls, rws, i, es, rfl, ⟨dx, ka, fs, ks, h1, h2, h3, h4, h5, h6⟩, hi, k⟩ := h
    obtain ⟨v, hv, a, rfl, le⟩ := each_getR h6 hi
    refine ⟨_, PSs.nox (pss_one (ps_ret (pe_ix ix_list (pe_fld (pv 0) rfl) (pv 1) (fun _ _ => rfl)))), ?_⟩
    exact ⟨_, rfl, p, C, dx, fs, _, rfl, h1, L.cl, L.n4, h3, _, rfl, ka, ks, _, _, rfl, rfl, SqL.of h5, atI_nat hv, k a le⟩
end
end K9

set_option Elab.async false
set_option linter.all false
set_option maxRecDepth 100000
set_option maxHeartbeats 4000000
/-! entries. -/
namespace K9
open PySem PySem.Spec PyProof.Rows L2
open PySem.W (EachIs)
def encE (e : Ent) : PyData := .tuple [.int e.1, .int e.2.1, .int e.2.2]
theorem dp_RE {K : PySem.W.Frag} {H : Hp} {v : V} {e : Ent} (h : RE H v e) : Dp K H v (encE e) := by
  obtain ⟨b, rfl, hb⟩ := h
  exact .tup (SqT.of hb) (.cons (.int _) (.cons (.int _) (.cons (.int _) .nil)))
theorem alike_E (a b : Ent) : PySem.W.alike (encE a) (encE b) = true := by simp [encE, PySem.W.alike, PySem.W.alikeAll]
theorem depth_E (a : Ent) : (encE a).depth = 1 := by simp [encE, PyData.depth, PyData.depthAll]
theorem cr_sortE {X : Cx} (hu : X.A.units + 64 < cLine) : CallR X (.builtin "sorted") (rSortD X.K encE) := cr_sortD alike_E (fun b => ⟨_, _, rfl⟩) (fun b => by rw [depth_E]; decide) hu
def keyE (e : Ent) : List Key := [.inl e.1, .inl e.2.1, .inl e.2.2]
theorem keyE_inj {a b : Ent} (h : keyE a = keyE b) : a = b := by
  obtain ⟨x, y, z⟩ := a
  obtain ⟨x', y', z'⟩ := b
  simp only [keyE, List.cons.injEq, Sum.inl.injEq, and_true] at h
  obtain ⟨rfl, rfl, rfl⟩ := h
  rfl
/-- the dict at d has the keys es, in order -/
def KD (H : Hp) (d : Addr) (es : List Ent) : Prop := ∃ kvs : List (List Key × V), H d = some (.dT kvs) ∧ kvs.map (·.1) = es.map keyE
theorem putK_keys {kvs : List (List Key × V)} {es : List Ent} (h : kvs.map (·.1) = es.map keyE) (e : Ent) (v : V) : (putK kvs (keyE e) v).map (·.1) = (dStep es e).map keyE := by
  have hm : (kvs.any fun kv => decide (kv.1 = keyE e)) = decide (e ∈ es) := by
    rw [Bool.eq_iff_iff, List.any_eq_true, decide_eq_true_iff]
    constructor
    · rintro ⟨kv, hk, q⟩
      have q := of_decide_eq_true q
      have z : keyE e ∈ es.map keyE := by
        rw [← h, ← q]
        exact List.mem_map.mpr ⟨kv, hk, rfl⟩
      obtain ⟨e', he', q'⟩ := List.mem_map.mp z
      exact keyE_inj q' ▸ he'
    · intro he
      have z : keyE e ∈ kvs.map (·.1) := by
        rw [h]
        exact List.mem_map.mpr ⟨e, he, rfl⟩
      obtain ⟨kv, hk, q⟩ := List.mem_map.mp z
      exact ⟨kv, hk, decide_eq_true q⟩
  unfold putK dStep
  rw [hm]
  by_cases he : e ∈ es
  · rw [if_pos (decide_eq_true he), if_pos he, List.map_map, ← h]
    refine List.map_congr_left fun kv _ => ?_
    show (if kv.1 = keyE e then (kv.1, v) else kv).1 = kv.1
    split <;> rfl
  · rw [if_neg (by rw [decide_eq_false he]; decide), if_neg he, List.map_append, List.map_append, h]
    rfl
theorem keys_RE {H : Hp} : ∀ {kvs : List (List Key × V)} {bs : List Addr} {es : List Ent}, IsKeys H kvs bs → kvs.map (·.1) = es.map keyE → EachIs (RE H) (bs.map V.ref) es
  | _, _, [], .nil, _ => .nil
  | _, _, _ :: _, .nil, h => by cases h
  | _, _, [], .cons _ _, h => by cases h
  | kv :: kvs, b :: bs, e :: es, .cons h1 t, h => by
    rw [List.map_cons, List.map_cons, List.cons.injEq] at h
    refine .cons ⟨b, rfl, ?_⟩ (keys_RE t h.2)
    rw [h1, h.1]
    rfl
def spEntries (C : Addr) : Sp := fun vs H Q _ => ∃ (p : Addr) (ls : List Int) (rws : List (List Int)), vs = [.ref p] ∧ TableAt C H p ls rws ∧ RowsOk ls rws ∧
  ∀ q H' es, Same H H' → H q = none → LE H' q es → es.Nodup → (∀ e, e ∈ es ↔ e ∈ allE ls rws) → Q (.ref q) H'
section
variable {P : Program} {w : World} {K : PySem.W.Frag} {mg : Str → Option Value} {base : Heap} {f : Addr} {fd : FuncData} {C : Addr}
theorem sc_entries : FnScope ["table", "found", "wait", "entry"] ["table"] (defScope sEntries) := ⟨rfl, rfl, rfl, by decide +kernel, rfl, by decide +kernel, by decide +kernel⟩
theorem ok_entries (F : FnP K "entries" "entries" sEntries f fd) (g : mg "entries" = some (.ref f)) (T : Txt mg) (L : Cls1 K C) {f1 : Addr} {fd1 : FuncData} (G1 : FnOk P w K mg base CX0 1 f1 fd1 ["self", "wait"] (spEntriesAt C)) (b1 : Binds K fd1 ["self", "wait"] [])
    (m1 : Meth K C "entries_at" f1) : Cal P w K mg base 2 "entries" ["table"] (spEntries C) := by
  refine ⟨f, fd, ?_, g, F.kp, F.bindsN fun _ _ _ _ _ _ us hl => match us, hl with | [_], _ => rfl⟩
  refine F.ok sc_entries (fun vs H Q E h => ?_) (fun cdv A outer s H vs Q E hr h => ?_)
  · obtain ⟨p, ls, rws, rfl, _⟩ := h
    rfl
  · obtain ⟨p, ls, rws, rfl, TA, RO, k⟩ := h
    have nd := sc_entries.nd
    have hu := hu_of hr
    refine ⟨_, PSs.nox (pss_cons (ps_set (i := 1) nd rfl (Or.inl rfl) pe_dnewT)
      (pss_cons (ps_for PassesOwn.never rfl (pi_range2 (by rfl) T.range (pa_cons pe_int (pa_cons (pe_op op_add (pe_fld (pv 0) rfl) pe_int) pa_nil))) (pg_name (i := 2) nd rfl (Or.inl rfl))
        (pss_one (ps_for PassesOwn.never rfl (pi_list (pe_meth (pv 0) L.cl m1 G1 hr b1 .nil pass0 (pa_cons (pv 2) pa_nil))) (pg_name (i := 3) nd rfl (Or.inl rfl))
          (pss_one (ps_dput hu (pv 1) (pv 3) pe_bl rfl)))))
      (pss_one (ps_ret (pe_callB (cr_sortE hr.units) (by rfl) T.sorted (by decide +kernel) (pa_cons (pe_callTy (call_list_dT rfl) (by rfl) T.list (by decide +kernel) (pa_cons (pv 1) pa_nil)) pa_nil)))))), ?_⟩
    obtain ⟨dx, ka, fs, ks, h1, h2, h3, h4, h5, h6⟩ := id TA
    have rm := RO.len
    refine fun d hd => ?_
    have s1 : Same H (upd H d (.dT [])) := same_new hd
    refine ⟨_, rfl, p, C, dx, fs, _, rfl, s1 _ _ h1, L.cl, L.n3, h2, _, _, rfl, rfl, 1, _, rfl, ⟨by omega, by omega, by omega, by omega⟩, ?_⟩
    have en : (((rws.length : Nat) : Int) + 1 - 1).toNat = rws.length := by omega
    rw [en]
    refine for_range (lo := 1) (n := rws.length) (fun i σ H' => ∃ v u, σ = [some (.ref p), some (.ref d), v, u] ∧ Same H H' ∧ KD H' d (dd (allE ls (rws.take i)))) ⟨none, none, rfl, s1, [], upd_same, rfl⟩ (fun i σ H' hi h' => ?_) (fun σ H2 h' => ?_)
    · obtain ⟨v, u, rfl, s', kd⟩ := h'
      obtain ⟨row, hrow⟩ : ∃ row, rws[i]? = some row := ⟨rws[i], List.getElem?_eq_getElem hi⟩
      have ok := RO.row i row hrow
      have hes : (([] : List Ent) :: rws.map (ents ls))[i + 1]? = some (ents ls row) := by
        rw [List.getElem?_cons_succ, List.getElem?_map, hrow]
        rfl
      have TA' := TA.fra (Fra.of s')
      refine ⟨_, rfl, p, dx, fs, rfl, s' _ _ h1, h4, _, rfl, p, ls, rws, i + 1, ents ls row, ?_, TA', hes, fun a le => ?_⟩
      · show [V.ref p, V.int (1 + (i : Int))] ++ [] = _
        rw [show (1 : Int) + (i : Int) = ((i + 1 : Nat) : Int) by omega]
        rfl
      · obtain ⟨xs, hx, ex⟩ := id le
        have xl : xs.length = row.length := by rw [ex.length, ents_len]
        have r60 := ok.len
        have al := allE_take_len RO i
        refine ⟨a, rfl, ⟨xs, SqL.of hx⟩, for_list (K := K) (a := a) (xs := xs) (fun j σ H3 => ∃ v u, σ = [some (.ref p), some (.ref d), v, u] ∧ Same H H3 ∧ LE H3 a (ents ls row) ∧ H3 a = some (.lst xs) ∧ KD H3 d (dd (allE ls (rws.take i) ++ (ents ls row).take j)))
          ⟨_, _, rfl, s', le, hx, ?_⟩ (fun j σ H3 _ h3 => ?_) (fun j x σ H3 hj h3 => ?_) (fun σ H3 h3 => ?_)⟩
        · rw [List.take_zero, List.append_nil]
          exact kd
        · obtain ⟨_, _, _, _, _, hx3, _⟩ := h3
          exact SqL.of hx3
        · obtain ⟨v3, u3, rfl, s3, le3, hx3, kvs, hk, hkeys⟩ := h3
          obtain ⟨xs', hx', ex'⟩ := id le3
          rw [hx3] at hx'
          cases hx'
          obtain ⟨e, he, b, rfl, hb⟩ := each_get ex' hj
          have jl : j < xs.length := (List.getElem?_eq_some_iff.mp hj).1
          have kl : kvs.length ≤ 3700 := by
            have q := congrArg List.length hkeys
            have q2 := dd_len (allE ls (rws.take i) ++ (ents ls row).take j)
            rw [List.length_map, List.length_map] at q
            rw [List.length_append, List.length_take] at q2
            omega
          have na : a ≠ d := ne_of hx3 hk (by intro z; cases z)
          refine ⟨_, rfl, _, rfl, d, _, rfl, DPut.t (k := keyE e) hk hb (small_line (by omega)), ?_⟩
          refine ⟨_, _, rfl, same_set s3 hd, le3.set na (nt_dT hk), by rw [upd_ne na]; exact hx3, _, upd_same, ?_⟩
          rw [takeS he, ← List.append_assoc, dd_snoc]
          exact putK_keys hkeys e _
        · obtain ⟨v3, u3, rfl, s3, _, _, kd3⟩ := h3
          refine ⟨_, _, rfl, s3, ?_⟩
          rw [allE_snoc ls hrow]
          rw [xl, ← ents_len ls row, List.take_length] at kd3
          exact kd3
    · obtain ⟨v, u, rfl, s2, kvs, hk, hkeys⟩ := h'
      rw [List.take_length] at hkeys
      refine ⟨_, rfl, d, kvs, rfl, .inl hk, fun l bs hl hbs => ?_⟩
      have hRE := keys_RE hbs hkeys
      have s3 : Same H (upd H2 l (.lst (bs.map V.ref))) := s2.trans (same_new hl)
      refine ⟨l, _, dd (allE ls rws), RE (upd H2 l (.lst (bs.map V.ref))), rfl, SqL.of upd_same, EachIs.ts_RE (sts (same_new hl)) hRE, fun x b h => dp_RE h, fun q ys hq hy => ?_⟩
      have pm := List.mergeSort_perm (dd (allE ls rws)) (PySem.W.dataLe false encE)
      refine k q _ _ (s3.trans (same_new hq)) (s3.free hq) ⟨ys, upd_same, EachIs.ts_RE (sts (same_new hq)) hy⟩ (pm.nodup_iff.mpr (dd_nd _)) fun e => pm.mem_iff.trans (dd_mem _ e)
end
end K9

set_option Elab.async false
set_option linter.all false
set_option maxRecDepth 100000
set_option maxHeartbeats 4000000
/-! clash, clashes, safe. -/
namespace K9
open PySem PySem.Spec PyProof.Rows L2
open PySem.W (EachIs)
def encP (p : Pr) : PyData := .tuple [encE p.1, encE p.2]
theorem dp_RP {K : PySem.W.Frag} {H : Hp} {v : V} {p : Pr} (h : RP H v p) : Dp K H v (encP p) := by
  obtain ⟨b, x, y, rfl, hb, hx, hy⟩ := h
  exact .tup (SqT.of hb) (.cons (dp_RE hx) (.cons (dp_RE hy) .nil))
theorem alike_P (a b : Pr) : PySem.W.alike (encP a) (encP b) = true := by simp [encP, encE, PySem.W.alike, PySem.W.alikeAll]
theorem depth_P (a : Pr) : (encP a).depth = 2 := by simp [encP, encE, PyData.depth, PyData.depthAll]
theorem cr_sortP {X : Cx} (hu : X.A.units + 64 < cLine) : CallR X (.builtin "sorted") (rSortD X.K encP) := cr_sortD alike_P (fun b => ⟨_, _, rfl⟩) (fun b => by rw [depth_P]; decide) hu
/-- the order of pairs of entries -/
def leP : Pr → Pr → Bool := PySem.W.dataLe false encP
theorem toks_inj {a b : Pr} (h : PySem.W.keyToks (encP a) = PySem.W.keyToks (encP b)) : a = b := by
  obtain ⟨⟨x1, x2, x3⟩, y1, y2, y3⟩ := a
  obtain ⟨⟨u1, u2, u3⟩, w1, w2, w3⟩ := b
  simp only [encP, encE, PySem.W.keyToks, PySem.W.keyToksAll, List.cons_append, List.nil_append, List.cons.injEq, Sum.inl.injEq, and_true, true_and] at h
  obtain ⟨rfl, rfl, rfl, rfl, rfl, rfl⟩ := h
  rfl
theorem leP_anti (a b : Pr) (h1 : leP a b = true) (h2 : leP b a = true) : a = b := by
  unfold leP at h1 h2
  rw [PySem.W.dataLe_eq] at h1 h2
  have e1 : PySem.W.dataLt (encP b) (encP a) = false := by simpa using h1
  have e2 : PySem.W.dataLt (encP a) (encP b) = false := by simpa using h2
  exact toks_inj ((listOrd itemOrd).total _ _ e2 e1)
theorem sortP_asc (l : List Pr) : (l.mergeSort leP).Pairwise fun a b => leP a b = true := PySem.W.sort_pairwise (PySem.W.sortLe_total _ false _) l
theorem GrowP {H H' : Hp} {D T : Addr} {ps : List Pr} {xs : List V} {p : Pr} {x y : V} (s : Same H H') (hD0 : H D = none) (hD : H' D = some (.lst xs)) (he : EachIs (RP H') xs ps) (hx : RE H' x p.1) (hy : RE H' y p.2) (hT : H' T = none) :
    Same H (upd (upd H' T (.tup [x, y])) D (.lst (xs ++ [.ref T]))) ∧ LP (upd (upd H' T (.tup [x, y])) D (.lst (xs ++ [.ref T]))) D (ps ++ [p]) := by
  have dt : D ≠ T := ne_of_none hD hT
  have h2 : (upd H' T (.tup [x, y])) D = some (.lst xs) := by
    rw [upd_ne dt]
    exact hD
  have ts : TS H' (upd (upd H' T (.tup [x, y])) D (.lst (xs ++ [.ref T]))) := (ts_set (nt_non hT)).trans (ts_set (nt_lst h2))
  refine ⟨same_set (s.trans (same_new hT)) hD0, _, upd_same, each_snoc (EachIs.ts_RP ts he) ⟨T, x, y, rfl, ?_, hx.ts ts, hy.ts ts⟩⟩
  rw [upd_ne (Ne.symm dt), upd_same]
def spClash : Sp := fun vs H Q _ => ∃ (c : Int) (x y : V) (a b : Ent), vs = [.int c, x, y] ∧ RE H x a ∧ RE H y b ∧ a.1 = b.1 ∧ a.2.2 < b.2.2 ∧ 2 ≤ c ∧ c ≤ 4 ∧ Q (.bl (clB c a b)) H
def spClashes (C : Addr) : Sp := fun vs H Q _ => ∃ (p : Addr) (c : Int) (ls : List Int) (rws : List (List Int)), vs = [.ref p, .int c] ∧ TableAt C H p ls rws ∧ RowsOk ls rws ∧ 2 ≤ c ∧ c ≤ 4 ∧
  ∀ q H' ps, Same H H' → H q = none → LP H' q ps → IsCl leP (allE ls rws) c ps → Q (.ref q) H'
def spSafe (C : Addr) : Sp := fun vs H Q _ => ∃ (p : Addr) (c : Int) (ls : List Int) (rws : List (List Int)), vs = [.ref p, .int c] ∧ TableAt C H p ls rws ∧ RowsOk ls rws ∧ 2 ≤ c ∧ c ≤ 4 ∧
  ∀ H' ps, Same H H' → IsCl leP (allE ls rws) c ps → Q (.bl (decide (ps = []))) H'
section
variable {P : Program} {w : World} {K : PySem.W.Frag} {mg : Str → Option Value} {base : Heap} {f : Addr} {fd : FuncData} {C : Addr}
theorem sc_clash : FnScope ["comers", "one", "other", "ahead", "between"] ["comers", "one", "other"] (defScope sClash) := ⟨rfl, rfl, rfl, by decide +kernel, rfl, by decide +kernel, by decide +kernel⟩
theorem ok_clash (F : FnP K "clash" "clash" sClash f fd) (g : mg "clash" = some (.ref f)) : Cal P w K mg base 1 "clash" ["comers", "one", "other"] spClash := by
  refine ⟨f, fd, ?_, g, F.kp, F.bindsN fun _ _ _ _ _ _ us hl => match us, hl with | [_, _, _], _ => rfl⟩
  refine F.ok sc_clash (fun vs H Q E h => ?_) (fun cdv A outer s H vs Q E hr h => ?_)
  · obtain ⟨c, x, y, a, b, rfl, _⟩ := h
    rfl
  · obtain ⟨c, x, y, a, b, rfl, ⟨xa, rfl, hx⟩, ⟨ya, rfl, hy⟩, e1, e2, c1, c2, k⟩ := h
    have nd := sc_clash.nd
    refine ⟨_, PSs.nox (pss_cons (ps_if (pt_cmpR op_gt (pe_ix ix_tup (pv 1) pe_int (fun _ _ => rfl)) (pe_ix ix_tup (pv 2) pe_int (fun _ _ => rfl)) (nomark _)) (pss_one ps_never) pss_nil)
      (pss_cons (ps_set (i := 3) nd rfl (Or.inl rfl) (pe_op op_sub (pe_ix ix_tup (pv 1) pe_int (fun _ _ => rfl)) (pe_ix ix_tup (pv 2) pe_int (fun _ _ => rfl))))
      (pss_cons (ps_set (i := 4) nd rfl (Or.inl rfl) (pe_op op_sub (pe_ix ix_tup (pv 2) pe_int (fun _ _ => rfl)) (pe_ix ix_tup (pv 1) pe_int (fun _ _ => rfl))))
      (pss_one (ps_ret (pe_and (pe_cmpR op_ge (pv 3) pe_int (nomark _)) (pe_one (pe_chain op_lt op_le pe_int (pv 4) (pe_op op_sub (pe_op op_add (pe_op op_mul (pv 0) (pv 3)) (pv 0)) pe_int))))))))), ?_⟩
    refine ⟨_, rfl, xa, _, _, _, rfl, rfl, SqT.of hx, rfl, _, rfl, ya, _, _, _, rfl, rfl, SqT.of hy, rfl, _, _, rfl, rfl, _, rfl, ?_⟩
    rw [decide_eq_false (show ¬ b.2.2 < a.2.2 by omega)]
    refine iteF ?_
    refine ⟨_, rfl, xa, _, _, _, rfl, rfl, SqT.of hx, rfl, _, rfl, ya, _, _, _, rfl, rfl, SqT.of hy, rfl, _, _, rfl, rfl, ?_⟩
    refine ⟨_, rfl, ya, _, _, _, rfl, rfl, SqT.of hy, rfl, _, rfl, xa, _, _, _, rfl, rfl, SqT.of hx, rfl, _, _, rfl, rfl, ?_⟩
    refine ⟨_, rfl, _, _, rfl, rfl, _, rfl, ?_⟩
    refine ite2 (fun h => ?_) (fun h => ?_)
    · have h := of_decide_eq_true h
      refine ⟨_, rfl, _, _, rfl, rfl, _, rfl, ?_⟩
      rw [if_pos (decide_eq_true (show (0 : Int) < b.2.2 - a.2.2 by omega))]
      refine ⟨_, rfl, _, rfl, _, _, rfl, rfl, .inl ⟨by omega, by omega⟩, _, rfl, _, _, rfl, rfl, _, _, rfl, rfl, _, _, rfl, rfl, ?_⟩
      have q : decide (b.2.2 - a.2.2 ≤ c * (a.2.1 - b.2.1) + c - 1) = clB c a b := by
        unfold clB
        exact decide_eq_decide.mpr ⟨fun z => ⟨e1, e2, by omega, z⟩, fun z => z.2.2.2⟩
      show Q (.bl (decide (b.2.2 - a.2.2 ≤ c * (a.2.1 - b.2.1) + c - 1))) H
      rw [q]
      exact k
    · have h : ¬ (0 : Int) ≤ a.2.1 - b.2.1 := fun z => h (decide_eq_true z)
      have q : clB c a b = false := decide_eq_false fun z => h (by have := z.2.2.1; omega)
      rw [q] at k
      exact k
theorem sc_clashes : FnScope ["table", "comers", "rows", "found", "one", "other"] ["table", "comers"] (defScope sClashes) := ⟨rfl, rfl, rfl, by decide +kernel, rfl, by decide +kernel, by decide +kernel⟩
theorem ok_clashes (F : FnP K "clashes" "clashes" sClashes f fd) (g : mg "clashes" = some (.ref f)) (T : Txt mg) (C1 : Cal P w K mg base 3 "check_comers" ["thing"] spCheckComers) (C2 : Cal P w K mg base 2 "entries" ["table"] (spEntries C)) (C3 : Cal P w K mg base 1 "clash" ["comers", "one", "other"] spClash) :
    Cal P w K mg base 4 "clashes" ["table", "comers"] (spClashes C) := by
  obtain ⟨f1, fd1, G1, g1, k1, b1⟩ := C1.ex
  obtain ⟨f2, fd2, G2, g2, k2, b2⟩ := C2.ex
  obtain ⟨f3, fd3, G3, g3, k3, b3⟩ := C3.ex
  refine ⟨f, fd, ?_, g, F.kp, F.bindsN fun _ _ _ _ _ _ us hl => match us, hl with | [_, _], _ => rfl⟩
  refine F.ok sc_clashes (fun vs H Q E h => ?_) (fun cdv A outer s H vs Q E hr h => ?_)
  · obtain ⟨p, c, ls, rws, rfl, _⟩ := h
    rfl
  · obtain ⟨p, c, ls, rws, rfl, TA, RO, c1, c2, k⟩ := h
    have nd := sc_clashes.nd
    refine ⟨_, PSs.nox (pss_cons (ps_expr (pe_call G1 hr rfl g1 k1 b1 .nil pass0 (pa_cons (pv 1) pa_nil)))
      (pss_cons (ps_set (i := 2) nd rfl (Or.inl rfl) (pe_call G2 (hr.mono (by decide)) rfl g2 k2 b2 .nil pass0 (pa_cons (pv 0) pa_nil)))
      (pss_cons (ps_set (i := 3) nd rfl (Or.inl rfl) (pe_lst pa_nil))
      (pss_cons (ps_for PassesOwn.never rfl (pi_list (pv 2)) (pg_name (i := 4) nd rfl (Or.inl rfl))
        (pss_one (ps_for PassesOwn.never rfl (pi_list (pv 2)) (pg_name (i := 5) nd rfl (Or.inl rfl))
          (pss_one (ps_if (PW.pt (pw_and (pt_cmpR op_eq (pe_ix ix_tup (pv 4) pe_int (fun _ _ => rfl)) (pe_ix ix_tup (pv 5) pe_int (fun _ _ => rfl)) (nomark _))
            (pw_and (pt_cmpR op_lt (pe_ix ix_tup (pv 4) pe_int (fun _ _ => rfl)) (pe_ix ix_tup (pv 5) pe_int (fun _ _ => rfl)) (nomark _))
            (pw_and1 (pt_val (pe_call G3 (hr.mono (by decide)) rfl g3 k3 b3 .nil pass0 (pa_cons (pv 1) (pa_cons (pv 4) (pa_cons (pv 5) pa_nil)))))))))
            (pss_one (ps_expr (pe_bm PySem.F.plainAttrs_list PySem.F.slot_list_append PySem.F.type_list_append mt_append (pv 3) (pa_cons (pe_tup (pa_cons (pv 4) (pa_cons (pv 5) pa_nil))) pa_nil)))) pss_nil)))))
      (pss_one (ps_ret (pe_callB (cr_sortP hr.units) (by rfl) T.sorted (by decide +kernel) (pa_cons (pv 3) pa_nil)))))))), ?_⟩
    refine ⟨_, rfl, c, rfl, c1, c2, ?_⟩
    refine ⟨_, rfl, p, ls, rws, rfl, TA, RO, fun r H1 es s1 hr0 le ndE memE => ?_⟩
    refine ⟨Nat.zero_le _, fun D hD => ?_⟩
    obtain ⟨xs, hx, ex⟩ := id le
    have xl : xs.length = es.length := ex.length
    have e36 : es.length ≤ 3600 := by
      have q : (allE ls rws).length ≤ 3600 := allE_len RO
      have q2 : es.Perm (dd (allE ls rws)) := (List.perm_ext_iff_of_nodup ndE (dd_nd _)).mpr fun e => (memE e).trans (dd_mem _ e).symm
      rw [q2.length_eq]
      exact Nat.le_trans (dd_len _) q
    have sD : Same H1 (upd H1 D (.lst [])) := same_new hD
    refine ⟨_, rfl, r, rfl, ⟨xs, SqL.of (sD _ _ hx)⟩, for_list (K := K) (a := r) (xs := xs) (fun i σ H' => ∃ v u, σ = [some (.ref p), some (.int c), some (.ref r), some (.ref D), v, u] ∧ Same H1 H' ∧ LP H' D (out (pStep c) es (es.take i)))
      ⟨none, none, rfl, sD, [], upd_same, .nil⟩ (fun i σ H' _ h' => ?_) (fun i x σ H' hi h' => ?_) (fun σ H2 h' => ?_)⟩
    · obtain ⟨_, _, _, s', _⟩ := h'
      exact SqL.of (s' _ _ hx)
    · obtain ⟨v, u, rfl, s', lp⟩ := h'
      obtain ⟨a, ha, oa, rfl, hoa⟩ := each_get ex hi
      have il : i < xs.length := (List.getElem?_eq_some_iff.mp hi).1
      refine ⟨_, rfl, r, rfl, ⟨xs, SqL.of (s' _ _ hx)⟩, for_list (K := K) (a := r) (xs := xs) (fun j σ H3 => ∃ u, σ = [some (.ref p), some (.int c), some (.ref r), some (.ref D), some (.ref oa), u] ∧ Same H1 H3 ∧ LP H3 D ((es.take j).foldl (pStep c a) (out (pStep c) es (es.take i))))
        ⟨u, rfl, s', lp⟩ (fun j σ H3 _ h3 => ?_) (fun j x σ H3 hj h3 => ?_) (fun σ H3 h3 => ?_)⟩
      · obtain ⟨_, _, s3, _⟩ := h3
        exact SqL.of (s3 _ _ hx)
      · obtain ⟨u3, rfl, s3, ys, hy, ey⟩ := h3
        obtain ⟨b, hb, ob, rfl, hob⟩ := each_get ex hj
        have jl : j < xs.length := (List.getElem?_eq_some_iff.mp hj).1
        have h3a : H3 oa = some (.tup [.int a.1, .int a.2.1, .int a.2.2]) := s3 _ _ hoa
        have h3b : H3 ob = some (.tup [.int b.1, .int b.2.1, .int b.2.2]) := s3 _ _ hob
        have yl : ys.length < 16777216 := by
          rw [ey.length]
          exact at_len (pStep_len c) e36 (by omega) (by omega) a
        have skip : clB c a b = false → ∃ u, [some (V.ref p), some (V.int c), some (V.ref r), some (V.ref D), some (V.ref oa), some (V.ref ob)] = [some (V.ref p), some (V.int c), some (V.ref r), some (V.ref D), some (V.ref oa), u] ∧ Same H1 H3 ∧ LP H3 D ((es.take (j + 1)).foldl (pStep c a) (out (pStep c) es (es.take i))) := fun z => by
          refine ⟨_, rfl, s3, ys, hy, ?_⟩
          rw [foldS _ _ hb]
          unfold pStep at ey ⊢
          rw [if_neg (by rw [z]; decide)]
          exact ey
        refine ⟨_, rfl, oa, _, _, _, rfl, rfl, SqT.of h3a, rfl, _, rfl, ob, _, _, _, rfl, rfl, SqT.of h3b, rfl, rfl, _, rfl, ?_⟩
        refine ite2 (fun q1 => ?_) (fun q1 => ?_)
        · have q1 : a.1 = b.1 := V.int.inj (of_decide_eq_true q1)
          refine ⟨_, rfl, oa, _, _, _, rfl, rfl, SqT.of h3a, rfl, _, rfl, ob, _, _, _, rfl, rfl, SqT.of h3b, rfl, _, _, rfl, rfl, _, rfl, ?_⟩
          refine ite2 (fun q2 => ?_) (fun q2 => ?_)
          · have q2 : a.2.2 < b.2.2 := of_decide_eq_true q2
            refine ⟨_, rfl, _, rfl, _, rfl, c, _, _, a, b, rfl, ⟨oa, rfl, h3a⟩, ⟨ob, rfl, h3b⟩, q1, q2, c1, c2, _, rfl, ?_⟩
            refine ite2 (fun q3 => ?_) (fun q3 => ?_)
            · refine ⟨_, rfl, .inl ⟨rfl, _, SqL.of hy⟩, _, rfl, _, rfl, by show 2 ≤ sizeLine; decide, fun T hT => ?_⟩
              have gr := GrowP (p := (a, b)) s3 hD hy ey ⟨oa, rfl, h3a⟩ ⟨ob, rfl, h3b⟩ hT
              refine ⟨D, ys, .ref T, rfl, rfl, by rw [upd_ne (ne_of_none hy hT)]; exact hy, small_line yl, ?_⟩
              refine ⟨_, rfl, gr.1, ?_⟩
              rw [foldS _ _ hb]
              have e := gr.2
              unfold pStep at e ⊢
              rw [if_pos q3]
              exact e
            · exact skip (by simpa using q3)
          · refine iteF ?_
            exact skip (decide_eq_false fun z => q2 (decide_eq_true z.2.1))
        · refine iteF ?_
          exact skip (decide_eq_false fun z => q1 (decide_eq_true (congrArg V.int z.1)))
      · obtain ⟨u3, rfl, s3, lp3⟩ := h3
        refine ⟨_, _, rfl, s3, ?_⟩
        unfold out
        rw [foldS _ _ ha]
        rw [xl, List.take_length] at lp3
        exact lp3
    · obtain ⟨v, u, rfl, s2, ys, hy, ey⟩ := h'
      rw [xl, List.take_length] at ey
      refine ⟨_, rfl, D, ys, _, RP H2, rfl, SqL.of hy, ey, fun x b h => dp_RP h, fun q zs hq hz => ?_⟩
      refine k q _ _ ((s1.trans s2).trans (same_new hq)) (s1.free (s2.free hq)) ⟨zs, upd_same, EachIs.ts_RP (sts (same_new hq)) hz⟩ ?_
      have pa := pAll c ndE
      refine IsCl.sort (sortP_asc _) (List.mergeSort_perm _ _) ⟨pa.1, fun x => (pa.2 x).trans (Cl.same memE)⟩
theorem sc_safe : FnScope ["table", "comers"] ["table", "comers"] (defScope sSafe) := ⟨rfl, rfl, rfl, by decide +kernel, rfl, by decide +kernel, by decide +kernel⟩
theorem ok_safe (F : FnP K "safe" "safe" sSafe f fd) (g : mg "safe" = some (.ref f)) (T : Txt mg) (C1 : Cal P w K mg base 4 "clashes" ["table", "comers"] (spClashes C)) : Cal P w K mg base 5 "safe" ["table", "comers"] (spSafe C) := by
  obtain ⟨f1, fd1, G1, g1, k1, b1⟩ := C1.ex
  refine ⟨f, fd, ?_, g, F.kp, F.bindsN fun _ _ _ _ _ _ us hl => match us, hl with | [_, _], _ => rfl⟩
  refine F.ok sc_safe (fun vs H Q E h => ?_) (fun cdv A outer s H vs Q E hr h => ?_)
  · obtain ⟨p, c, ls, rws, rfl, _⟩ := h
    rfl
  · obtain ⟨p, c, ls, rws, rfl, TA, RO, c1, c2, k⟩ := h
    refine ⟨_, PSs.nox (pss_one (ps_ret (pe_cmpR op_eq (pe_callB call_len_seq (by rfl) T.len boot_len (pa_cons (pe_call G1 hr rfl g1 k1 b1 .nil pass0 (pa_cons (pv 0) (pa_cons (pv 1) pa_nil))) pa_nil)) pe_int (nomark _)))), ?_⟩
    refine ⟨_, rfl, _, rfl, p, c, ls, rws, rfl, TA, RO, c1, c2, fun q H' ps s' hq ⟨xs, hx, ex⟩ cl => ⟨q, xs, rfl, .inl (SqL.of hx), rfl, ?_⟩⟩
    have e : decide (V.int (xs.length : Nat) = V.int 0) = decide (ps = []) := by
      refine decide_eq_decide.mpr ⟨fun z => ?_, fun z => ?_⟩
      · have z : ((xs.length : Nat) : Int) = 0 := V.int.inj z
        rw [ex.length] at z
        exact List.length_eq_zero_iff.mp (by omega)
      · rw [ex.length, z]
        rfl
    show Q (.bl (decide (V.int (xs.length : Nat) = V.int 0))) H'
    rw [e]
    exact k H' ps s' cl
end
end K9

set_option Elab.async false
set_option linter.all false
set_option maxRecDepth 100000
set_option maxHeartbeats 4000000
/-! _law_flag, _law_tape, _law_pick. -/
namespace K9
open PySem PySem.Spec PyProof.Rows L2
open PySem.W (EachIs)
theorem fra_tape {H : Hp} {t : Addr} {o u : HO} (h : H t = some o) (ht : isTape o = true) : Fra H (upd H t u) := fun b v e n => by
  have hb : b ≠ t := fun z => by
    rw [z, h] at e
    cases e
    rw [ht] at n
    cases n
  rw [upd_ne hb]
  exact e
theorem tape_set {H : Hp} {t s : Addr} {xs : List V} {ns : List Int} {i a m c : Int} (h : H t = some (.lst xs)) (hs : H s = some (.lst (ns.map V.int))) (i0 : 0 ≤ i) (hx : isTape (.lst xs) = true := by rfl) :
    TapeOk (upd H t (.lst [.ref s, .int i, .int a, .int m, .int c])) t s := by
  refine ⟨ns, i, a, m, c, upd_same, ?_, i0⟩
  have hb : s ≠ t := fun z => by
    rw [z, h] at hs
    have e : xs = ns.map V.int := by
      injection hs with hs
      injection hs
    rw [e, noTapeI] at hx
    cases hx
  rw [upd_ne hb]
  exact hs
def spFlag : Sp := fun vs H Q _ => ∃ b : Bool, vs = [.bl b, .bl b] ∧ Q (.bl true) H
def spTape (K : PySem.W.Frag) : Sp := fun vs H Q _ => ∃ (a : Addr) (ns : List Int), vs = [.ref a] ∧ SqL K H a (ns.map V.int) ∧ ∀ t s H', Same H H' → H t = none → TapeOk H' t s → Q (.ref t) H'
def spPick : Sp := fun vs H Q _ => ∃ (t s : Addr) (n : Int), vs = [.ref t, .int n] ∧ TapeOk H t s ∧ 1 ≤ n ∧ n ≤ 1000 ∧ ∀ r H', 0 ≤ r → r < n → Fra H H' → TapeOk H' t s → Q (.int r) H'
section
variable {P : Program} {w : World} {K : PySem.W.Frag} {mg : Str → Option Value} {base : Heap} {f : Addr} {fd : FuncData}
theorem sc_flag : FnScope ["_law_told", "_law_due"] ["_law_told", "_law_due"] (defScope sFlag) := ⟨rfl, rfl, rfl, by decide +kernel, rfl, by decide +kernel, by decide +kernel⟩
theorem ok_flag (F : FnP K "_law_flag" "_law_flag" sFlag f fd) (g : mg "_law_flag" = some (.ref f)) (T : Txt mg) : Cal P w K mg base 1 "_law_flag" ["_law_told", "_law_due"] spFlag := by
  refine ⟨f, fd, ?_, g, F.kp, F.bindsN fun _ _ _ _ _ _ us hl => match us, hl with | [_, _], _ => rfl⟩
  refine F.ok sc_flag (fun vs H Q E h => ?_) (fun cdv A outer s H vs Q E hr h => ?_)
  · obtain ⟨b, rfl, _⟩ := h
    rfl
  · obtain ⟨b, rfl, k⟩ := h
    refine ⟨_, PSs.nox (pss_one (ps_ret (pe_and (pe_callB call_isi (by rfl) T.isinst (by decide +kernel) (pa_cons (pv 0) (pa_cons (pe_bltn (v := .ty "bool") (by rfl) T.bool (by decide +kernel) rfl) pa_nil)))
      (pe_one (pe_cmpR op_eq (pv 0) (pv 1) (nomark _)))))), ?_⟩
    refine ⟨_, rfl, .bl b, .ty "bool", .type "bool", .type "bool", true, rfl, .ty "bool", .base (.bl b), kit_ty (by decide +kernel), true, rfl, iteT ?_⟩
    refine ⟨_, rfl, _, rfl, rfl, ?_⟩
    show Q (.bl (decide (V.bl b = V.bl b))) H
    rw [decide_eq_true rfl]
    exact k
theorem sc_tape : FnScope ["_law_script"] ["_law_script"] (defScope sTape) := ⟨rfl, rfl, rfl, by decide +kernel, rfl, by decide +kernel, by decide +kernel⟩
theorem ok_tape (F : FnP K "_law_tape" "_law_tape" sTape f fd) (g : mg "_law_tape" = some (.ref f)) (T : Txt mg) : Cal P w K mg base 1 "_law_tape" ["_law_script"] (spTape K) := by
  refine ⟨f, fd, ?_, g, F.kp, F.bindsN fun _ _ _ _ _ _ us hl => match us, hl with | [_], _ => rfl⟩
  refine F.ok sc_tape (fun vs H Q E h => ?_) (fun cdv A outer s H vs Q E hr h => ?_)
  · obtain ⟨a, ns, rfl, _⟩ := h
    rfl
  · obtain ⟨a, ns, rfl, hS, k⟩ := h
    refine ⟨_, PSs.nox (pss_one (ps_ret (pe_lst (pa_cons (pe_callTy call_list_of (by rfl) T.list (by decide +kernel) (pa_cons (pv 0) pa_nil)) (pa_cons pe_int (pa_cons pe_int (pa_cons pe_int (pa_cons pe_int pa_nil)))))))), ?_⟩
    refine ⟨_, rfl, a, _, rfl, .inl hS, fun l hl => ⟨by show 5 ≤ sizeLine; decide, fun t ht => ?_⟩⟩
    have sl : Same H (upd H l (.lst (ns.map V.int))) := same_new hl
    refine k t l _ (sl.trans (same_new ht)) (sl.free ht) ⟨ns, 0, 0, 1, 0, upd_same, ?_, Int.le_refl _⟩
    exact same_new ht _ _ upd_same
theorem sc_pick : FnScope ["_law_tape_here", "_law_size", "_law_digit", "_law_cell", "_law_mixed"] ["_law_tape_here", "_law_size"] (defScope sPick) := ⟨rfl, rfl, rfl, by decide +kernel, rfl, by decide +kernel, by decide +kernel⟩
theorem ok_pick (F : FnP K "_law_pick" "_law_pick" sPick f fd) (g : mg "_law_pick" = some (.ref f)) (T : Txt mg) : Cal P w K mg base 1 "_law_pick" ["_law_tape_here", "_law_size"] spPick := by
  refine ⟨f, fd, ?_, g, F.kp, F.bindsN fun _ _ _ _ _ _ us hl => match us, hl with | [_, _], _ => rfl⟩
  refine F.ok sc_pick (fun vs H Q E h => ?_) (fun cdv A outer s H vs Q E hr h => ?_)
  · obtain ⟨t, z, n, rfl, _⟩ := h
    rfl
  · obtain ⟨t, z, n, rfl, ⟨ns, i, a, m, c, hT, hS, i0⟩, n1, n2, k⟩ := h
    have nd := sc_pick.nd
    have hn0 : 0 < n := by omega
    refine ⟨_, PSs.nox (pss_cons (ps_if (pt_cmpR op_gt (pe_ix ix_list (pv 0) pe_int (fun _ _ => rfl)) pe_int (nomark _))
        (pss_cons (ps_set (i := 2) nd rfl (Or.inl rfl) (pe_op op_mod (pe_callTy call_int1 (by rfl) T.int boot_int (pa_cons (pe_ix ix_list (pv 0) pe_int (fun _ _ => rfl)) pa_nil)) (pv 1)))
        (pss_cons (ps_asg (pe_op op_fdivN (pe_ix ix_list (pv 0) pe_int (fun _ _ => rfl)) (pv 1)) (pg_sub (pv 0) pe_int set_list))
        (pss_one (ps_ret (pv 2))))) pss_nil)
      (pss_cons (ps_asg (pe_op op_add (pe_ix ix_list (pv 0) pe_int (fun _ _ => rfl)) pe_int) (pg_sub (pv 0) pe_int set_list))
      (pss_cons (ps_set (i := 3) nd rfl (Or.inl rfl) pe_int)
      (pss_cons (ps_if (pt_cmpR op_lt (pe_ix ix_list (pv 0) pe_int (fun _ _ => rfl)) (pe_callB call_len_seq (by rfl) T.len boot_len (pa_cons (pe_ix ix_list (pv 0) pe_int (fun _ _ => rfl)) pa_nil)) (nomark _))
        (pss_cons (ps_set (i := 3) nd rfl (Or.inl rfl) (pe_ix ix_list (pe_ix ix_list (pv 0) pe_int (fun _ _ => rfl)) (pe_ix ix_list (pv 0) pe_int (fun _ _ => rfl)) (fun _ _ => rfl)))
        (pss_one (ps_asg (pe_op op_add (pe_ix ix_list (pv 0) pe_int (fun _ _ => rfl)) pe_int) (pg_sub (pv 0) pe_int set_list)))) pss_nil)
      (pss_cons (ps_if (pt_cmpR op_ge (pv 3) (pe_op op_pow pe_int pe_int) (nomark _))
        (pss_cons (ps_asg (pe_op op_fdivN (pv 3) (pv 1)) (pg_sub (pv 0) pe_int set_list))
        (pss_one (ps_ret (pe_op op_mod (pe_callTy call_int1 (by rfl) T.int boot_int (pa_cons (pv 3) pa_nil)) (pv 1))))) pss_nil)
      (pss_cons (ps_set (i := 4) nd rfl (Or.inl rfl) (pe_op op_mod (pe_callTy call_int1 (by rfl) T.int boot_int (pa_cons (pe_op op_add (pe_op op_add (pe_op op_mul (pe_ix ix_list (pv 0) pe_int (fun _ _ => rfl)) pe_int)
          (pe_op op_mod (pe_callTy call_int1 (by rfl) T.int boot_int (pa_cons (pv 3) pa_nil)) pe_int)) (pe_op op_mul (pe_ix ix_list (pv 0) pe_int (fun _ _ => rfl)) pe_int)) pa_nil)) pe_int))
      (pss_cons (ps_set (i := 4) nd rfl (Or.inl rfl) (pe_op op_mod (pe_callTy call_int1 (by rfl) T.int boot_int (pa_cons (pe_op op_mul (pv 4) (pe_op op_add (pe_op op_fdiv (pv 4) pe_int) pe_int)) pa_nil)) pe_int))
      (pss_cons (ps_asg (pv 4) (pg_sub (pv 0) pe_int set_list))
      (pss_one (ps_ret (pe_op op_mod (pe_callTy call_int1 (by rfl) T.int boot_int (pa_cons (pe_op op_fdiv (pv 4) pe_int) pa_nil)) (pv 1)))))))))))), ?_⟩
    -- tape[2] > 1
    refine ⟨_, rfl, _, _, _, _, rfl, rfl, SqL.of hT, rfl, _, _, rfl, rfl, _, rfl, ?_⟩
    refine ite2 (fun q => ?_) (fun q => ?_)
    · refine ⟨_, rfl, _, _, _, _, rfl, rfl, SqL.of hT, rfl, .inl ⟨_, rfl, _, rfl, _, _, rfl, rfl, hn0, ?_⟩⟩
      refine ⟨_, rfl, _, _, _, _, rfl, rfl, SqL.of hT, rfl, _, rfl, _, _, rfl, rfl, ⟨by omega, by omega⟩, _, rfl, t, _, 2, 2, rfl, rfl, hT, rfl, ?_⟩
      refine ⟨_, rfl, ?_⟩
      exact k _ _ (Int.emod_nonneg _ (by omega)) (Int.emod_lt_of_pos _ hn0) (fra_tape hT rfl) (tape_set hT hS i0)
    -- tape[4] = tape[4] + 1; cell = 0
    refine ⟨_, rfl, _, _, _, _, rfl, rfl, SqL.of hT, rfl, _, _, rfl, rfl, _, rfl, t, _, 4, 4, rfl, rfl, hT, rfl, ?_⟩
    have hF : Fra H (upd H t (.lst [.ref z, .int i, .int a, .int m, .int (c + 1)])) := fra_tape hT rfl
    have hS1 := hF _ _ hS noTapeI
    have hT1 : (upd H t (.lst [.ref z, .int i, .int a, .int m, .int (c + 1)])) t = some (.lst [.ref z, .int i, .int a, .int m, .int (c + 1)]) := upd_same
    -- tape[1] < len(tape[0])
    refine ⟨_, rfl, _, _, _, _, rfl, rfl, SqL.of hT1, rfl, _, rfl, _, _, _, _, rfl, rfl, SqL.of hT1, rfl, z, _, rfl, .inl (SqL.of hS1), _, _, rfl, rfl, _, rfl, ?_⟩
    refine ite2 (fun q => ?_) (fun q => ?_)
    · have il : i < ((ns.map V.int).length : Int) := of_decide_eq_true q
      obtain ⟨cell, hcell⟩ : ∃ cell, atI (ns.map V.int) i = some (V.int cell) := by
        rw [List.length_map] at il
        have il2 : i.toNat < ns.length := by omega
        refine ⟨ns[i.toNat], at_of (j := i.toNat) (by omega) ?_⟩
        rw [List.getElem?_map, List.getElem?_eq_getElem il2]
        rfl
      refine ⟨_, rfl, _, _, _, _, rfl, rfl, SqL.of hT1, rfl, _, rfl, _, _, _, _, rfl, rfl, SqL.of hT1, rfl, z, _, _, _, rfl, rfl, SqL.of hS1, hcell, ?_⟩
      refine ⟨_, rfl, _, _, _, _, rfl, rfl, SqL.of hT1, rfl, _, _, rfl, rfl, _, rfl, t, _, 1, 1, rfl, rfl, hT1, rfl, ?_⟩
      have i0' : 0 ≤ i + 1 := by omega
      clear i0
      have i0 := i0'
      have hF2 : Fra H (upd (upd H t (.lst [.ref z, .int i, .int a, .int m, .int (c + 1)])) t (.lst [.ref z, .int (i + 1), .int a, .int m, .int (c + 1)])) := hF.trans (fra_tape hT1 rfl)
      have hS := hF2 _ _ hS noTapeI
      have hT : (upd (upd H t (.lst [.ref z, .int i, .int a, .int m, .int (c + 1)])) t (.lst [.ref z, .int (i + 1), .int a, .int m, .int (c + 1)])) t = some (.lst [.ref z, .int (i + 1), .int a, .int m, .int (c + 1)]) := upd_same
      have hF := hF2

      refine ⟨_, rfl, _, _, rfl, rfl, ⟨by decide, by decide, by decide⟩, _, _, rfl, rfl, _, rfl, ?_⟩
      refine ite2 (fun z => ?_) (fun z => ?_)
      · refine ⟨_, rfl, _, rfl, _, _, rfl, rfl, ⟨by omega, by omega⟩, _, rfl, t, _, 2, 2, rfl, rfl, hT, rfl, ?_⟩
        refine ⟨_, rfl, .inl ⟨_, rfl, _, rfl, _, _, rfl, rfl, hn0, ?_⟩⟩
        exact k _ _ (Int.emod_nonneg _ (by omega)) (Int.emod_lt_of_pos _ hn0) (hF.trans (fra_tape hT rfl)) (tape_set hT hS i0)
      · refine ⟨_, rfl, _, _, _, _, rfl, rfl, SqL.of hT, rfl, _, _, rfl, rfl, .inr ⟨by decide, by decide⟩, ?_⟩
        refine ⟨_, rfl, .inl ⟨_, rfl, _, _, rfl, rfl, (by show (0 : Int) < 2147483629; decide), _, _, rfl, rfl, ?_⟩⟩
        refine ⟨_, rfl, _, _, _, _, rfl, rfl, SqL.of hT, rfl, _, _, rfl, rfl, .inr ⟨by decide, by decide⟩, _, _, rfl, rfl, ?_⟩
        refine .inl ⟨_, rfl, _, _, rfl, rfl, (by show (0 : Int) < 2147483647; decide), ?_⟩
        have y0 := Int.emod_nonneg (m * 48271 + cell % 2147483629 + (c + 1) * 69621) (show (2147483647 : Int) ≠ 0 by decide)
        have y1 := Int.emod_lt_of_pos (m * 48271 + cell % 2147483629 + (c + 1) * 69621) (show (0 : Int) < 2147483647 by decide)
        refine ⟨_, rfl, _, rfl, _, _, rfl, rfl, ⟨by decide, by decide⟩, _, _, rfl, rfl, _, _, rfl, rfl, .inl ⟨?_, ?_⟩, ?_⟩
        · show -(2 ^ 64) < (m * 48271 + cell % 2147483629 + (c + 1) * 69621) % 2147483647
          omega
        · show (m * 48271 + cell % 2147483629 + (c + 1) * 69621) % 2147483647 < 2 ^ 64
          omega
        refine .inl ⟨_, rfl, _, _, rfl, rfl, (by show (0 : Int) < 2147483399; decide), ?_⟩
        refine ⟨_, rfl, _, rfl, t, _, 3, 3, rfl, rfl, hT, rfl, ?_⟩
        refine ⟨_, rfl, _, _, rfl, rfl, ⟨by decide, by decide⟩, .inl ⟨_, rfl, _, rfl, _, _, rfl, rfl, hn0, ?_⟩⟩
        exact k _ _ (Int.emod_nonneg _ (by omega)) (Int.emod_lt_of_pos _ hn0) (hF.trans (fra_tape hT rfl)) (tape_set hT hS i0)

    · have hS := hS1
      have hT := hT1

      refine ⟨_, rfl, _, _, rfl, rfl, ⟨by decide, by decide, by decide⟩, _, _, rfl, rfl, _, rfl, ?_⟩
      refine ite2 (fun z => ?_) (fun z => ?_)
      · refine ⟨_, rfl, _, rfl, _, _, rfl, rfl, ⟨by omega, by omega⟩, _, rfl, t, _, 2, 2, rfl, rfl, hT, rfl, ?_⟩
        refine ⟨_, rfl, .inl ⟨_, rfl, _, rfl, _, _, rfl, rfl, hn0, ?_⟩⟩
        exact k _ _ (Int.emod_nonneg _ (by omega)) (Int.emod_lt_of_pos _ hn0) (hF.trans (fra_tape hT rfl)) (tape_set hT hS i0)
      · refine ⟨_, rfl, _, _, _, _, rfl, rfl, SqL.of hT, rfl, _, _, rfl, rfl, .inr ⟨by decide, by decide⟩, ?_⟩
        refine ⟨_, rfl, .inl ⟨_, rfl, _, _, rfl, rfl, (by show (0 : Int) < 2147483629; decide), _, _, rfl, rfl, ?_⟩⟩
        refine ⟨_, rfl, _, _, _, _, rfl, rfl, SqL.of hT, rfl, _, _, rfl, rfl, .inr ⟨by decide, by decide⟩, _, _, rfl, rfl, ?_⟩
        refine .inl ⟨_, rfl, _, _, rfl, rfl, (by show (0 : Int) < 2147483647; decide), ?_⟩
        have y0 := Int.emod_nonneg (m * 48271 + 0 % 2147483629 + (c + 1) * 69621) (show (2147483647 : Int) ≠ 0 by decide)
        have y1 := Int.emod_lt_of_pos (m * 48271 + 0 % 2147483629 + (c + 1) * 69621) (show (0 : Int) < 2147483647 by decide)
        refine ⟨_, rfl, _, rfl, _, _, rfl, rfl, ⟨by decide, by decide⟩, _, _, rfl, rfl, _, _, rfl, rfl, .inl ⟨?_, ?_⟩, ?_⟩
        · show -(2 ^ 64) < (m * 48271 + 0 % 2147483629 + (c + 1) * 69621) % 2147483647
          omega
        · show (m * 48271 + 0 % 2147483629 + (c + 1) * 69621) % 2147483647 < 2 ^ 64
          omega
        refine .inl ⟨_, rfl, _, _, rfl, rfl, (by show (0 : Int) < 2147483399; decide), ?_⟩
        refine ⟨_, rfl, _, rfl, t, _, 3, 3, rfl, rfl, hT, rfl, ?_⟩
        refine ⟨_, rfl, _, _, rfl, rfl, ⟨by decide, by decide⟩, .inl ⟨_, rfl, _, rfl, _, _, rfl, rfl, hn0, ?_⟩⟩
        exact k _ _ (Int.emod_nonneg _ (by omega)) (Int.emod_lt_of_pos _ hn0) (hF.trans (fra_tape hT rfl)) (tape_set hT hS i0)
end
end K9

set_option Elab.async false
set_option linter.all false
set_option maxRecDepth 100000
set_option maxHeartbeats 4000000
/-! _law_loops. -/
namespace K9
open PySem PySem.Spec PyProof.Rows L2
open PySem.W (EachIs)
def spLoops : Sp := fun vs H Q _ => ∃ (t z : Addr), vs = [.ref t, .int 5, .int 5] ∧ TapeOk H t z ∧ ∀ a ls H', Fra H H' → TapeOk H' t z → LoopT H' a ls → LoopsOk ls → Q (.ref a) H'
section
variable {P : Program} {w : World} {K : PySem.W.Frag} {mg : Str → Option Value} {base : Heap} {f : Addr} {fd : FuncData}
theorem sc_loops : FnScope ["_law_tape_here", "_law_most", "_law_longest", "_law_many", "_law_found", "_law_k"] ["_law_tape_here", "_law_most", "_law_longest"] (defScope sLoops) := ⟨rfl, rfl, rfl, by decide +kernel, rfl, by decide +kernel, by decide +kernel⟩
theorem ok_loops (F : FnP K "_law_loops" "_law_loops" sLoops f fd) (g : mg "_law_loops" = some (.ref f)) (T : Txt mg) (C1 : Cal P w K mg base 1 "_law_pick" ["_law_tape_here", "_law_size"] spPick) :
    Cal P w K mg base 2 "_law_loops" ["_law_tape_here", "_law_most", "_law_longest"] spLoops := by
  obtain ⟨f1, fd1, G1, g1, k1, b1⟩ := C1.ex
  refine ⟨f, fd, ?_, g, F.kp, F.bindsN fun _ _ _ _ _ _ us hl => match us, hl with | [_, _, _], _ => rfl⟩
  refine F.ok sc_loops (fun vs H Q E h => ?_) (fun cdv A outer s H vs Q E hr h => ?_)
  · obtain ⟨t, z, rfl, _⟩ := h
    rfl
  · obtain ⟨t, z, rfl, TO, k⟩ := h
    have nd := sc_loops.nd
    refine ⟨_, PSs.nox (pss_cons (ps_set (i := 3) nd rfl (Or.inl rfl) (pe_op op_add pe_int (pe_call G1 hr rfl g1 k1 b1 .nil pass0 (pa_cons (pv 0) (pa_cons (pv 1) pa_nil)))))
      (pss_cons (ps_setLc (i := 4) (own := [("_law_k", 5)]) (g := gName 5) (tt := tYes) rfl nd rfl rfl (sw_true rfl rfl rfl (by decide +kernel)) (pi_range1 (by rfl) T.range (pa_cons (pv 3) pa_nil))
        (blkOk_by (N := ["_law_tape_here", "_law_most", "_law_longest", "_law_many", "_law_found", "_law_k"]) (sc := defScope sLoops) (own := [("_law_k", 5)]) (by decide +kernel)) (fun _ _ _ _ _ => pg_name (i := 5) nd rfl (Or.inl rfl)) (fun _ _ _ _ _ => pts_nil)
        (fun _ _ _ _ _ => pe_op op_add pe_int (pe_call G1 hr rfl g1 k1 b1 .nil pass0 (pa_cons (pv 0) (pa_cons (pv 2) pa_nil)))))
      (pss_cons (ps_asg pe_int (pg_sub (pv 4) (pe_call G1 hr rfl g1 k1 b1 .nil pass0 (pa_cons (pv 0) (pa_cons (pv 3) pa_nil))) set_list))
      (pss_one (ps_ret (pe_callTy call_tuple_frz (by rfl) T.tuple (by decide +kernel) (pa_cons (pv 4) pa_nil))))))), ?_⟩
    -- many
    refine ⟨_, rfl, _, rfl, t, z, 5, rfl, TO, by omega, by omega, fun r H1 r0 r1 F1 T1 => ⟨_, _, rfl, rfl, ?_⟩⟩
    -- found
    refine ⟨_, rfl, _, rfl, by omega, by omega, fun D hD => ?_⟩
    refine lc_range (lo := 0) (n := (1 + r).toNat) (fun i H' => Fra H1 H' ∧ TapeOk H' t z ∧ ∃ ns : List Int, H' D = some (.lst (ns.map V.int)) ∧ ns.length = i ∧ ∀ x ∈ ns, 1 ≤ x ∧ x ≤ 5) ⟨Fra.of (same_new hD), T1.same (same_new hD), [], upd_same, rfl, fun x hx => by cases hx⟩
      (fun i H' hi h' => ?_) (fun H2 h' => ?_)
    · obtain ⟨F2, T2, ns, hns, hl, hx⟩ := h'
      refine ⟨rfl, ?_⟩
      refine ⟨_, rfl, _, rfl, t, z, 5, rfl, T2, by omega, by omega, fun q H3 q0 q1 F3 T3 => ⟨_, _, rfl, rfl, ns.map V.int, F3 _ _ hns noTapeI, small_line (by rw [List.length_map]; omega), fra_set (F2.trans F3) hD, T1.set hD T3, ns ++ [1 + q], ?_, ?_, fun x hx2 => ?_⟩⟩
      · rw [upd_same, List.map_append]
        rfl
      · rw [List.length_append, hl]
        rfl
      · rcases List.mem_append.mp hx2 with h | h
        · exact hx x h
        · rw [List.mem_singleton] at h
          omega
    · obtain ⟨F2, T2, ns, hns, hl, hx⟩ := h'
      -- found[pick(many)] = 1
      refine ⟨_, rfl, _, rfl, _, rfl, t, z, 1 + r, rfl, T2, by omega, by omega, fun q H3 q0 q1 F3 T3 => ?_⟩
      have h3 : H3 D = some (.lst (ns.map V.int)) := F3 _ _ hns noTapeI
      have ql : q.toNat < ns.length := by omega
      refine ⟨D, _, q, q.toNat, rfl, rfl, h3, ?_, ?_⟩
      · unfold ixN
        rw [if_pos q0, if_pos (by rw [List.length_map]; omega)]
      refine ⟨_, rfl, D, (ns.set q.toNat 1).map V.int, rfl, SqL.of ?_, fun a o ha od => ?_⟩
      · rw [upd_same, List.map_set]
      have nD : a ≠ D := fun e => by
        rw [e, upd_same] at ha
        cases ha
      have ha3 : H3 a = none := by
        rw [upd_ne nD] at ha
        exact ha
      have T4 : TapeOk (upd H3 D (.lst ((ns.map V.int).set q.toNat (.int 1)))) t z := T1.set hD T3
      have F4 : Fra H1 (upd H3 D (.lst ((ns.map V.int).set q.toNat (.int 1)))) := fra_set (F2.trans F3) hD
      refine k a (ns.set q.toNat 1) _ (F1.trans (F4.trans (Fra.of (same_new ha)))) (T4.same (same_new ha)) ⟨o, upd_same, od⟩ ⟨?_, ?_, fun x hx2 => ?_, ?_⟩
      · rw [List.length_set]
        omega
      · rw [List.length_set]
        omega
      · rcases List.mem_or_eq_of_mem_set hx2 with h | h
        · have := hx x h
          omega
        · omega
      · exact List.mem_set ql 1
end
end K9

set_option Elab.async false
set_option linter.all false
set_option maxRecDepth 100000
set_option maxHeartbeats 8000000
/-! _law_row. -/
namespace K9
open PySem PySem.Spec PyProof.Rows L2
open PySem.W (EachIs)
theorem first_one : ∀ {ls : List Int}, (1 : Int) ∈ ls → ∃ j : Nat, ls[j]? = some 1 ∧ ∀ m : Nat, m < j → ls[m]? ≠ some 1
  | [], h => by cases h
  | x :: r, h => by
    by_cases hx : x = 1
    · exact ⟨0, by rw [hx]; rfl, fun m hm => absurd hm (Nat.not_lt_zero _)⟩
    · have hr : (1 : Int) ∈ r := (List.mem_cons.mp h).elim (fun e => absurd e.symm hx) id
      obtain ⟨j, h1, h2⟩ := first_one hr
      refine ⟨j + 1, h1, fun m hm => ?_⟩
      cases m with
      | zero =>
        intro e
        exact hx (Option.some.inj e)
      | succ m => exact h2 m (by omega)
theorem len_at {ls : List Int} {j : Nat} {x : Int} (h : ls[j]? = some x) : len ls (j : Int) = x := by
  unfold len
  rw [Int.toNat_natCast, List.getD_eq_getElem?_getD, h]
  rfl
/-- a for over a range that may be left: what is behind it is shown once -/
theorem for_range_b {lo : Int} {n : Nat} {g : TG} {tb : L2.TS} {D : Ends} {σ : L2.St} {H : Hp} (Pv : Nat → L2.St → Hp → Prop) (Pb : L2.St → Hp → Prop) (h0 : Pv 0 σ H) (he : ∀ σ H, Pb σ H → D.nx σ H)
    (hs : (∀ σ H, Pb σ H → D.nx σ H) → ∀ i σ H, i < n → Pv i σ H → g (.int (lo + i)) σ H fun σ2 H2 => tb { D with nx := Pv (i + 1), ct := Pv (i + 1), bk := D.nx } σ2 H2) (hd : ∀ σ H, Pv n σ H → Pb σ H) :
    ∃ W : Nat → Nat → L2.St → Hp → Prop, (∃ m, W 0 m σ H) ∧ ∀ i m σ H, W i m σ H →
      ((Itr lo n).stop i H ∧ D.nx σ H) ∨ ((Itr lo n).go i H ∧ ∃ N : L2.St → Hp → Prop, (∀ σ' H', N σ' H' → ∃ m', m' < m ∧ W (i + 1) m' σ' H') ∧ ∀ x H', (Itr lo n).yld i H x H' → g x σ H' fun σ2 H2 => tb { D with nx := N, ct := N, bk := D.nx } σ2 H2) :=
  for_range Pv h0 (hs he) fun σ H p => he σ H (hd σ H p)
def spRow : Sp := fun vs H Q _ => ∃ (t z l : Addr) (ls : List Int) (wait : Int), vs = [.ref t, .ref l, .int wait] ∧ TapeOk H t z ∧ LoopT H l ls ∧ LoopsOk ls ∧ 1 ≤ wait ∧ wait ≤ 10 ∧
  ∀ a row H', Fra H H' → TapeOk H' t z → H' a = some (.tup (row.map V.int)) → RowOk ls wait row → Q (.ref a) H'
section
variable {P : Program} {w : World} {K : PySem.W.Frag} {mg : Str → Option Value} {base : Heap} {f : Addr} {fd : FuncData}
theorem sc_row : FnScope ["_law_tape_here", "_law_loops_here", "_law_wait", "_law_row_here", "_law_left", "_law_again", "_law_turn", "_law_fitting", "_law_k"] ["_law_tape_here", "_law_loops_here", "_law_wait"] (defScope sRow) := ⟨rfl, rfl, rfl, by decide +kernel, rfl, by decide +kernel, by decide +kernel⟩
theorem ok_row (F : FnP K "_law_row" "_law_row" sRow f fd) (g : mg "_law_row" = some (.ref f)) (T : Txt mg) (C1 : Cal P w K mg base 1 "_law_pick" ["_law_tape_here", "_law_size"] spPick) :
    Cal P w K mg base 2 "_law_row" ["_law_tape_here", "_law_loops_here", "_law_wait"] spRow := by
  obtain ⟨f1, fd1, G1, g1, k1, b1⟩ := C1.ex
  refine ⟨f, fd, ?_, g, F.kp, F.bindsN fun _ _ _ _ _ _ us hl => match us, hl with | [_, _, _], _ => rfl⟩
  refine F.ok sc_row (fun vs H Q E h => ?_) (fun cdv A outer s H vs Q E hr h => ?_)
  · obtain ⟨t, z, l, ls, wait, rfl, _⟩ := h
    rfl
  · obtain ⟨t, z, l, ls, wait, rfl, TO, LT, LO, w1, w2, k⟩ := h
    have nd := sc_row.nd
    refine ⟨_, PSs.nox (pss_cons (ps_set (i := 3) nd rfl (Or.inr rfl) (pe_lst pa_nil))
      (pss_cons (ps_set (i := 4) nd rfl (Or.inr rfl) (pv 2))
      (pss_cons (ps_set (i := 5) nd rfl (Or.inr rfl) (pe_cmpR op_eq (pe_call G1 hr rfl g1 k1 b1 .nil pass0 (pa_cons (pv 0) (pa_cons pe_int pa_nil))) pe_int (nomark _)))
      (pss_cons (ps_for PassesOwn.never rfl (pi_range1 (by rfl) T.range (pa_cons pe_int pa_nil)) (pg_name (i := 6) nd rfl (Or.inl rfl))
        (pss_cons (ps_setLc (i := 7) (own := [("_law_k", 8)]) (g := gName 8) rfl nd rfl rfl (sw_true rfl rfl rfl (by decide +kernel)) (pi_range1 (by rfl) T.range (pa_cons (pe_callB call_len_seq (by rfl) T.len boot_len (pa_cons (pv 1) pa_nil)) pa_nil))
          (blkOk_by (N := ["_law_tape_here", "_law_loops_here", "_law_wait", "_law_row_here", "_law_left", "_law_again", "_law_turn", "_law_fitting", "_law_k"]) (sc := defScope sRow) (own := [("_law_k", 8)]) (by decide +kernel)) (fun _ _ _ _ _ => pg_name (i := 8) nd rfl (Or.inl rfl))
          (fun _ _ _ _ _ => pts_one (PW.pt (pw_and (pt_cmpR op_le (pe_ix (r := rIxT K) ix_tup (pv 1) (pv 8) (fun _ _ => rfl)) (pv 4) (nomark _)) (pw_and1 (PW.pt (pw_or (pt_val (pv 5)) (pw_or1 (pt_cmpR (r := rIn K true) op_notIn_seq (pv 8) (pv 3) (by rfl)))))))))
          (fun _ _ _ _ _ => pv 8))
        (pss_cons (ps_if (PW.pt (pw_or (pt_cmpR op_eq (pe_callB call_len_seq (by rfl) T.len boot_len (pa_cons (pv 7) pa_nil)) pe_int (nomark _)) (pw_or1 (pt_cmpR op_eq (pv 4) pe_int (nomark _))))) (pss_one ps_break) pss_nil)
        (pss_cons (ps_expr (pe_bm PySem.F.plainAttrs_list PySem.F.slot_list_append PySem.F.type_list_append mt_append (pv 3) (pa_cons (pe_ix ix_list (pv 7)
          (pe_call G1 hr rfl g1 k1 b1 .nil pass0 (pa_cons (pv 0) (pa_cons (pe_callB call_len_seq (by rfl) T.len boot_len (pa_cons (pv 7) pa_nil)) pa_nil))) (fun _ _ => rfl)) pa_nil)))
        (pss_one (ps_set (i := 4) nd rfl (Or.inr rfl) (pe_op op_sub (pv 4) (pe_ix ix_tup (pv 1) (pe_ix ix_list (pv 3) (pe_un un_neg pe_int) (fun _ _ => rfl)) (fun _ _ => rfl)))))))))
      (pss_cons (ps_for PassesOwn.never rfl (pi_range1 (by rfl) T.range (pa_cons (pv 4) pa_nil)) (pg_name (i := 6) nd rfl (Or.inl rfl))
        (pss_one (ps_expr (pe_bm PySem.F.plainAttrs_list PySem.F.slot_list_append PySem.F.type_list_append mt_append (pv 3) (pa_cons (pe_tm PySem.F.slot_tuple_index PySem.F.type_tuple_index mt_tup_indexI (pv 1) (pa_cons pe_int pa_nil)) pa_nil)))))
      (pss_one (ps_ret (pe_callTy call_tuple_of (by rfl) T.tuple (by decide +kernel) (pa_cons (pv 3) pa_nil))))))))), ?_⟩
    -- row = []; left = wait; again = pick(12) == 0
    refine ⟨Nat.zero_le _, fun R hR => ?_⟩
    have sR : Same H (upd H R (.lst [])) := same_new hR
    refine ⟨_, rfl, _, rfl, t, z, 12, rfl, TO.same sR, by omega, by omega, fun r H1 r0 r1 F1 T1 => ⟨rfl, ?_⟩⟩
    have hR1 : H1 R = some (.lst []) := F1 _ _ upd_same rfl
    have F1' : Fra H H1 := (Fra.of sR).trans F1
    generalize decide (V.int r = V.int 0) = ag
    -- the first loop
    refine ⟨8, rfl, by decide, by decide, for_range_b (lo := 0) (n := 8)
      (fun i σ H' => ∃ (left : Int) (row : List Int) (v6 v7 : Option V), σ = [some (.ref t), some (.ref l), some (.int wait), some (.ref R), some (.int left), some (.bl ag), v6, v7, none] ∧ Fra H H' ∧ TapeOk H' t z ∧ H' R = some (.lst (row.map V.int)) ∧ row.length ≤ i ∧ (∀ k ∈ row, 0 ≤ k ∧ k < ls.length) ∧ 0 ≤ left ∧ sumOf ls row + left = wait)
      (fun σ H' => ∃ (left : Int) (row : List Int) (v6 v7 : Option V), σ = [some (.ref t), some (.ref l), some (.int wait), some (.ref R), some (.int left), some (.bl ag), v6, v7, none] ∧ Fra H H' ∧ TapeOk H' t z ∧ H' R = some (.lst (row.map V.int)) ∧ row.length ≤ 8 ∧ (∀ k ∈ row, 0 ≤ k ∧ k < ls.length) ∧ 0 ≤ left ∧ sumOf ls row + left = wait)
      ⟨wait, [], none, none, rfl, F1', T1, hR1, Nat.le_refl _, fun k hk => (by cases hk), by omega, by show 0 + wait = wait; omega⟩ (fun σ H' h' => ?_) (fun he i σ H' hi h' => ?_) (fun σ H' h' => h')⟩
    · -- the second loop, the end
      obtain ⟨left, row, v6, v7, rfl, F2, T2, hR2, rl, rg, l0, sm⟩ := h'
      have s0 : 0 ≤ sumOf ls row := by
        have q : ∀ (rw_ : List Int), (∀ k ∈ rw_, 0 ≤ k ∧ k < ls.length) → 0 ≤ sumOf ls rw_ := by
          intro rw_
          induction rw_ with
          | nil => intro _; exact Int.le_refl _
          | cons x r ih =>
            intro hx
            have h1 := ih fun k hk => hx k (List.mem_cons_of_mem _ hk)
            have h2 := hx x List.mem_cons_self
            have h3 : 1 ≤ len ls x := by
              obtain ⟨y, hy⟩ : ∃ y, ls[x.toNat]? = some y := ⟨ls[x.toNat]'(by omega), List.getElem?_eq_getElem (by omega)⟩
              have e : len ls x = y := by
                unfold len
                rw [List.getD_eq_getElem?_getD, hy]
                rfl
              rw [e]
              exact (LO.rng y (List.mem_of_getElem? hy)).1
            show 0 ≤ (len ls x :: r.map (len ls)).sum
            rw [List.sum_cons]
            unfold sumOf at h1
            omega
        exact q row rg
      refine ⟨_, rfl, left, rfl, by omega, by omega, for_range (lo := 0) (n := left.toNat)
        (fun j σ H3 => ∃ (row : List Int) (v6 v7 : Option V), σ = [some (.ref t), some (.ref l), some (.int wait), some (.ref R), some (.int left), some (.bl ag), v6, v7, none] ∧ Fra H H3 ∧ TapeOk H3 t z ∧ H3 R = some (.lst (row.map V.int)) ∧ row.length ≤ 8 + j ∧ (∀ k ∈ row, 0 ≤ k ∧ k < ls.length) ∧ sumOf ls row + left = wait + j)
        ⟨row, v6, v7, rfl, F2, T2, hR2, rl, rg, by omega⟩ (fun j σ H3 hj h3 => ?_) (fun σ H3 h3 => ?_)⟩
      · obtain ⟨row3, u6, u7, rfl, F3, T3, hR3, rl3, rg3, sm3⟩ := h3
        obtain ⟨o, hlo, od⟩ := LT.f F3
        obtain ⟨q, q1, q2⟩ := first_one LO.one
        have ql : q < ls.length := (List.getElem?_eq_some_iff.mp q1).1
        refine ⟨_, rfl, .inl ⟨rfl, _, SqL.of hR3⟩, _, rfl, ⟨l, o, _, rfl, hlo, od⟩, l, ls, 1, q, rfl, rfl, sqR (.inr ⟨o, hlo⟩), q1, q2, R, _, _, rfl, rfl, hR3, small_line (by rw [List.length_map]; omega), ?_⟩
        refine ⟨row3 ++ [(q : Int)], _, _, rfl, fra_set F3 hR, TO.set hR T3, ?_, ?_, fun x hx => ?_, ?_⟩
        · rw [upd_same, List.map_append]
          rfl
        · rw [List.length_append]
          show row3.length + 1 ≤ _
          omega
        · rcases List.mem_append.mp hx with h | h
          · exact rg3 x h
          · rw [List.mem_singleton] at h
            omega
        · rw [sumOf_snoc, len_at q1]
          omega
      · obtain ⟨row3, u6, u7, rfl, F3, T3, hR3, rl3, rg3, sm3⟩ := h3
        refine ⟨_, rfl, R, _, rfl, .inl ⟨SqL.of hR3, fun a ha => ?_⟩⟩
        exact k a row3 _ (F3.trans (Fra.of (same_new ha))) (T3.same (same_new ha)) upd_same ⟨by omega, rg3, by omega⟩
    · obtain ⟨left, row, v6, v7, rfl, F2, T2, hR2, rl, rg, l0, sm⟩ := h'
      have LT2 := LT.f F2
      -- the fitting ones
      refine ⟨_, rfl, l, _, rfl, .inr (sqR LT2.rd), _, rfl, by rw [List.length_map]; have := LO.len; omega, by rw [List.length_map]; have := LO.len; omega, fun D hD => ?_⟩
      refine lc_range (lo := 0) (fun j H3 => Same H' H3 ∧ ∃ fs : List Int, H3 D = some (.lst (fs.map V.int)) ∧ fs.length ≤ j ∧ ∀ k ∈ fs, (0 ≤ k ∧ k < ls.length) ∧ len ls k ≤ left) ⟨same_new hD, [], upd_same, Nat.le_refl _, fun k hk => by cases hk⟩ (fun j H3 hj h3 => ?_) (fun H3 h3 => ?_)
      · obtain ⟨s3, fs, hfs, fl, hf⟩ := h3
        have jl : j < ls.length := by
          rw [List.length_map] at hj
          omega
        have hk : 0 ≤ (0 : Int) + (j : Int) ∧ (0 : Int) + (j : Int) < ls.length := by omega
        have lo8 := LO.len
        have skip : Same H' H3 ∧ ∃ fs : List Int, H3 D = some (.lst (fs.map V.int)) ∧ fs.length ≤ j + 1 ∧ ∀ k ∈ fs, (0 ≤ k ∧ k < ls.length) ∧ len ls k ≤ left := ⟨s3, fs, hfs, by omega, hf⟩
        have app : len ls (0 + (j : Int)) ≤ left → Same H' (upd H3 D (.lst (fs.map V.int ++ [V.int (0 + (j : Int))]))) ∧ ∃ gs : List Int, (upd H3 D (.lst (fs.map V.int ++ [V.int (0 + (j : Int))]))) D = some (.lst (gs.map V.int)) ∧ gs.length ≤ j + 1 ∧ ∀ k ∈ gs, (0 ≤ k ∧ k < ls.length) ∧ len ls k ≤ left := fun q => by
          refine ⟨same_set s3 hD, fs ++ [0 + (j : Int)], ?_, ?_, fun k hk2 => ?_⟩
          · rw [upd_same, List.map_append]
            rfl
          · rw [List.length_append]
            show fs.length + 1 ≤ _
            omega
          · rcases List.mem_append.mp hk2 with h | h
            · exact hf k h
            · rw [List.mem_singleton] at h
              rw [h]
              exact ⟨hk, q⟩
        have hz : (fs.map V.int).length < sizeLine := small_line (by rw [List.length_map]; omega)
        refine ⟨rfl, ?_⟩
        refine ⟨_, rfl, _, rfl, l, _, _, _, rfl, rfl, sqR (LT2.f (Fra.of s3)).rd, lenAt hk, _, rfl, _, _, rfl, rfl, _, rfl, ?_⟩
        refine ite2 (fun q => ?_) (fun q => ?_)
        · have q := of_decide_eq_true q
          refine ⟨_, rfl, ag, rfl, ?_⟩
          refine ite2 (fun q2 => ?_) (fun q2 => ?_)
          · exact ⟨_, rfl, _, hfs, hz, app q⟩
          · refine ⟨_, rfl, _, rfl, R, _, rfl, .inl (SqL.of (s3 _ _ hR2)), rfl, flat_ints _, _, rfl, ?_⟩
            refine ite2 (fun q3 => ?_) (fun q3 => ?_)
            · exact ⟨_, rfl, _, hfs, hz, app q⟩
            · exact skip
        · exact skip
      · obtain ⟨s3, fs, hfs, fl, hf⟩ := h3
        have F3 : Fra H H3 := F2.trans (Fra.of s3)
        have T3 := T2.same s3
        have hR3 := s3 _ _ hR2
        refine ⟨_, rfl, D, _, rfl, .inl (SqL.of hfs), rfl, _, rfl, ?_⟩
        refine ite2 (fun q => ?_) (fun q => ?_)
        · exact he _ _ ⟨left, row, _, _, rfl, F3, T3, hR3, by omega, rg, l0, sm⟩
        · have fs0 : 0 < fs.length := by
            rcases Nat.eq_zero_or_pos fs.length with e | e
            · exact absurd (decide_eq_true (by rw [List.length_map, e]; rfl)) q
            · exact e
          refine ⟨_, rfl, rfl, _, rfl, ?_⟩
          refine ite2 (fun q2 => ?_) (fun q2 => ?_)
          · exact he _ _ ⟨left, row, _, _, rfl, F3, T3, hR3, by omega, rg, l0, sm⟩
          · have f8 : fs.length ≤ 8 := by
              have := LO.len
              rw [List.length_map] at fl
              omega
            refine ⟨_, rfl, .inl ⟨rfl, _, SqL.of hR3⟩, _, rfl, _, rfl, _, rfl, D, _, rfl, .inl (SqL.of hfs), t, z, _, rfl, T3, by rw [List.length_map]; omega, by rw [List.length_map]; omega, fun r4 H4 p0 p1 F4 T4 => ?_⟩
            have hfs4 := F4 _ _ hfs noTapeI
            have hR4 := F4 _ _ hR3 noTapeI
            rw [List.length_map] at p1
            have pl : r4.toNat < fs.length := by omega
            obtain ⟨x, hx⟩ : ∃ x, fs[r4.toNat]? = some x := ⟨_, List.getElem?_eq_getElem pl⟩
            obtain ⟨hk, hle⟩ := hf x (List.mem_of_getElem? hx)
            refine ⟨D, _, r4, .int x, rfl, rfl, SqL.of hfs4, at_of (j := r4.toNat) (by omega) (by rw [List.getElem?_map, hx]; rfl), R, _, _, rfl, rfl, hR4, small_line (by rw [List.length_map]; omega), ?_⟩
            have F5 : Fra H (upd H4 R (.lst (row.map V.int ++ [V.int x]))) := fra_set (F3.trans F4) hR
            refine ⟨_, rfl, _, rfl, _, rfl, _, rfl, R, _, _, _, rfl, rfl, SqL.of upd_same, atI_last _ _, l, _, _, _, rfl, rfl, sqR (LT.f F5).rd, lenAt hk, _, _, rfl, rfl, ?_⟩
            refine ⟨left - len ls x, row ++ [x], _, _, rfl, F5, TO.set hR T4, ?_, ?_, fun y hy => ?_, by omega, ?_⟩
            · rw [upd_same, List.map_append]
              rfl
            · rw [List.length_append]
              show row.length + 1 ≤ _
              omega
            · rcases List.mem_append.mp hy with h | h
              · exact rg y h
              · rw [List.mem_singleton] at h
                rw [h]
                exact hk
            · rw [sumOf_snoc]
              omega
end
end K9

set_option Elab.async false
set_option linter.all false
set_option maxRecDepth 100000
set_option maxHeartbeats 8000000
/-! _law_rows, _law_entries, _law_clash. -/
namespace K9
open PySem PySem.Spec PyProof.Rows L2
open PySem.W (EachIs)
theorem refs_RI {H : Hp} : ∀ {xs : List V} {es : List (List Int)}, EachIs (RI H) xs es → ∀ x ∈ xs, ∃ b, x = V.ref b := fun {xs es} h x hx => by
  obtain ⟨e, _, b, q, _⟩ := h.left x hx
  exact ⟨b, q⟩
def spRows : Sp := fun vs H Q _ => ∃ (t z l : Addr) (ls : List Int) (n : Int), vs = [.ref t, .ref l, .int n] ∧ TapeOk H t z ∧ LoopT H l ls ∧ LoopsOk ls ∧ 1 ≤ n ∧ n ≤ 10 ∧
  ∀ a rws H', Fra H H' → TapeOk H' t z → RowsAt H' a rws → RowsOk ls rws → rws.length ≤ 10 → Q (.ref a) H'
def spLEntries : Sp := fun vs H Q _ => ∃ (l t : Addr) (ls row : List Int), vs = [.ref l, .ref t] ∧ Rd H l (.tup (ls.map V.int)) ∧ H t = some (.tup (row.map V.int)) ∧ row.length ≤ 60 ∧ (∀ k ∈ row, 0 ≤ k ∧ k < ls.length) ∧
  ∀ p H', Same H H' → H p = none → LE H' p (ents ls row) → Q (.ref p) H'
def spLClash : Sp := fun vs H Q _ => ∃ (c : Int) (x y : V) (a b : Ent), vs = [.int c, x, y] ∧ RE H x a ∧ RE H y b ∧ 2 ≤ c ∧ c ≤ 4 ∧ Q (.bl (clB c a b)) H
section
variable {P : Program} {w : World} {K : PySem.W.Frag} {mg : Str → Option Value} {base : Heap} {f : Addr} {fd : FuncData}
theorem sc_rows : FnScope ["_law_tape_here", "_law_loops_here", "_law_bound", "_law_wait"] ["_law_tape_here", "_law_loops_here", "_law_bound"] (defScope sRows) := ⟨rfl, rfl, rfl, by decide +kernel, rfl, by decide +kernel, by decide +kernel⟩
theorem ok_rows (F : FnP K "_law_rows" "_law_rows" sRows f fd) (g : mg "_law_rows" = some (.ref f)) (T : Txt mg) (C1 : Cal P w K mg base 2 "_law_row" ["_law_tape_here", "_law_loops_here", "_law_wait"] spRow) :
    Cal P w K mg base 3 "_law_rows" ["_law_tape_here", "_law_loops_here", "_law_bound"] spRows := by
  obtain ⟨f1, fd1, G1, g1, k1, b1⟩ := C1.ex
  refine ⟨f, fd, ?_, g, F.kp, F.bindsN fun _ _ _ _ _ _ us hl => match us, hl with | [_, _, _], _ => rfl⟩
  refine F.ok sc_rows (fun vs H Q E h => ?_) (fun cdv A outer s H vs Q E hr h => ?_)
  · obtain ⟨t, z, l, ls, n, rfl, _⟩ := h
    rfl
  · obtain ⟨t, z, l, ls, n, rfl, TO, LT, LO, n1, n2, k⟩ := h
    have nd := sc_rows.nd
    refine ⟨_, PSs.nox (pss_one (ps_ret (pe_callTy call_tuple_of (by rfl) T.tuple (by decide +kernel) (pa_cons
      (pe_lc (own := [("_law_wait", 3)]) (g := gName 3) (tt := tYes) rfl nd (pi_range2 (by rfl) T.range (pa_cons pe_int (pa_cons (pe_op op_add (pv 2) pe_int) pa_nil)))
        (blkOk_by (N := ["_law_tape_here", "_law_loops_here", "_law_bound", "_law_wait"]) (sc := defScope sRows) (own := [("_law_wait", 3)]) (by decide +kernel)) (fun _ _ _ _ _ => pg_name (i := 3) nd rfl (Or.inl rfl)) (fun _ _ _ _ _ => pts_nil)
        (fun _ _ _ _ _ => pe_call G1 hr rfl g1 k1 b1 .nil pass0 (pa_cons (pv 0) (pa_cons (pv 1) (pa_cons (pv 3) pa_nil))))) pa_nil)))), ?_⟩
    refine ⟨_, rfl, _, _, rfl, rfl, 1, _, rfl, ⟨by omega, by omega, by omega, by omega⟩, fun D hD => ?_⟩
    have en : (n + 1 - 1).toNat = n.toNat := by omega
    rw [en]
    refine lc_range (lo := 1) (n := n.toNat) (fun i H' => Fra H H' ∧ TapeOk H' t z ∧ ∃ (rs : List V) (rws : List (List Int)), H' D = some (.lst rs) ∧ EachIs (RI H') rs rws ∧ rws.length = i ∧ ∀ (j : Nat) (r : List Int), rws[j]? = some r → RowOk ls ((j : Int) + 1) r)
      ⟨Fra.of (same_new hD), TO.same (same_new hD), [], [], upd_same, .nil, rfl, fun j r hj => by simp at hj⟩ (fun i H' hi h' => ?_) (fun H' h' => ?_)
    · obtain ⟨F2, T2, rs, rws, hrs, ers, rl, rok⟩ := h'
      refine ⟨rfl, ?_⟩
      refine ⟨_, rfl, _, rfl, _, rfl, t, z, l, ls, 1 + (i : Int), rfl, T2, LT.f F2, LO, by omega, by omega, fun a row H3 F3 T3 ha ok => ?_⟩
      have h3 : H3 D = some (.lst rs) := F3 _ _ hrs (noTape (refs_RI ers))
      have ts : TS H' (upd H3 D (.lst (rs ++ [.ref a]))) := F3.ts.trans (ts_set (nt_lst h3))
      have na : a ≠ D := ne_of ha h3 (by intro z; cases z)
      refine ⟨rs, h3, small_line ?_, fra_set (F2.trans F3) hD, TO.set hD T3, _, rws ++ [row], upd_same, each_snoc (EachIs.ts_RI ts ers) ⟨a, rfl, by rw [upd_ne na]; exact ha⟩, ?_, fun j r hj => ?_⟩
      · rw [ers.length]
        omega
      · rw [List.length_append, rl]
        rfl
      · by_cases hl : j < rws.length
        · rw [List.getElem?_append_left hl] at hj
          exact rok j r hj
        · rw [List.getElem?_append_right (by omega)] at hj
          have e0 : j - rws.length = 0 := by
            have q := (List.getElem?_eq_some_iff.mp hj).1
            simp only [List.length_singleton] at q
            omega
          rw [e0] at hj
          have e1 : row = r := Option.some.inj hj
          subst e1
          have e2 : (1 : Int) + (i : Int) = (j : Int) + 1 := by omega
          rw [e2] at ok
          exact ok
    · obtain ⟨F2, T2, rs, rws, hrs, ers, rl, rok⟩ := h'
      refine ⟨D, rs, rfl, .inl ⟨SqL.of hrs, fun a ha => ?_⟩⟩
      exact k a rws _ (F2.trans (Fra.of (same_new ha))) (T2.same (same_new ha)) ⟨rs, upd_same, EachIs.ts_RI (sts (same_new ha)) ers⟩ ⟨by omega, by omega, rok⟩ (by omega)
theorem sc_lEntries : FnScope ["_law_loops_here", "_law_row_here", "_law_k", "_law_total", "_law_found", "_law_gone"] ["_law_loops_here", "_law_row_here"] (defScope sLEntries) := ⟨rfl, rfl, rfl, by decide +kernel, rfl, by decide +kernel, by decide +kernel⟩
theorem ok_lEntries (F : FnP K "_law_entries" "_law_entries" sLEntries f fd) (g : mg "_law_entries" = some (.ref f)) (T : Txt mg) : Cal P w K mg base 1 "_law_entries" ["_law_loops_here", "_law_row_here"] spLEntries := by
  refine ⟨f, fd, ?_, g, F.kp, F.bindsN fun _ _ _ _ _ _ us hl => match us, hl with | [_, _], _ => rfl⟩
  refine F.ok sc_lEntries (fun vs H Q E h => ?_) (fun cdv A outer s H vs Q E hr h => ?_)
  · obtain ⟨l, t, ls, row, rfl, _⟩ := h
    rfl
  · obtain ⟨l, t, ls, row, rfl, hl, ht, h60, hk, k⟩ := h
    have nd := sc_lEntries.nd
    refine ⟨_, PSs.nox (pss_cons (ps_set (i := 3) nd rfl (Or.inl rfl) (pe_callB (cr_sum rfl) (by rfl) T.sum (by decide +kernel) (pa_cons
        (pe_lc (own := [("_law_k", 2)]) (g := gName 2) (tt := tYes) rfl nd (pi_tup (pv 1)) (blkOk_by (N := ["_law_loops_here", "_law_row_here", "_law_k", "_law_total", "_law_found", "_law_gone"]) (sc := defScope sLEntries) (own := [("_law_k", 2)]) (by decide +kernel))
          (fun _ _ _ _ _ => pg_name (i := 2) nd rfl (Or.inl rfl)) (fun _ _ _ _ _ => pts_nil) (fun _ _ _ _ _ => pe_ix (r := rIxT K) ix_tup (pv 0) (pv 2) (fun _ _ => rfl))) pa_nil)))
      (pss_cons (ps_set (i := 4) nd rfl (Or.inl rfl) (pe_lst pa_nil))
      (pss_cons (ps_set (i := 5) nd rfl (Or.inl rfl) pe_int)
      (pss_cons (ps_for PassesOwn.never rfl (pi_tup (pv 1)) (pg_name (i := 2) nd rfl (Or.inl rfl))
        (pss_cons (ps_expr (pe_bm PySem.F.plainAttrs_list PySem.F.slot_list_append PySem.F.type_list_append mt_append (pv 4) (pa_cons (pe_tup (pa_cons (pv 2) (pa_cons (pv 5) (pa_cons (pe_op op_sub (pv 3) (pv 5)) pa_nil)))) pa_nil)))
        (pss_one (ps_set (i := 5) nd rfl (Or.inl rfl) (pe_op op_add (pv 5) (pe_ix ix_tup (pv 0) (pv 2) (fun _ _ => rfl)))))))
      (pss_one (ps_ret (pv 4))))))), ?_⟩
    refine ⟨_, rfl, t, rfl, ⟨_, SqT.of ht⟩, fun D0 hD0 => ?_⟩
    refine lc_tup (K := K) (a := t) (xs := row.map V.int) (fun i H' => Same H H' ∧ H' D0 = some (.lst (((row.take i).map (len ls)).map V.int))) ⟨same_new hD0, upd_same⟩ (fun i H' _ h' => SqT.of (h'.1 _ _ ht)) (fun i x H' hi h' => ?_) (fun H1 h' => ?_)
    · obtain ⟨n, hn, rfl⟩ := map_get hi
      have il : i < row.length := (List.getElem?_eq_some_iff.mp hn).1
      refine ⟨rfl, ?_⟩
      refine ⟨_, rfl, _, rfl, l, _, n, _, rfl, rfl, sqR (hl.s h'.1), lenAt (hk n (List.mem_of_getElem? hn)), _, h'.2, small_line ?_, same_set h'.1 hD0, ?_⟩
      · rw [List.length_map, List.length_map, List.length_take]
        omega
      · rw [upd_same, takeS hn, List.map_append, List.map_append]
        rfl
    · rw [List.length_map, List.take_length] at h'
      obtain ⟨s1, hD1⟩ := h'
      refine ⟨D0, _, rfl, SqL.of hD1, ?_⟩
      refine ⟨Nat.zero_le _, fun D hD => ?_⟩
      have sD : Same H (upd H1 D (.lst [])) := s1.trans (same_new hD)
      refine ⟨_, rfl, t, rfl, ⟨_, SqT.of (sD _ _ ht)⟩, for_tup (K := K) (a := t) (xs := row.map V.int)
        (fun i σ H' => ∃ v : Option V, σ = [some (.ref l), some (.ref t), v, some (.int (sumOf ls row)), some (.ref D), some (.int (efold ls (sumOf ls row) (row.take i)).1)] ∧ Grow H1 D (efold ls (sumOf ls row) (row.take i)).2 H')
        ⟨none, rfl, same_new hD, [], upd_same, .nil⟩ (fun i σ H' _ h' => ?_) (fun i x σ H' hi h' => ?_) (fun σ H' h' => ?_)⟩
      · obtain ⟨v, _, s', _⟩ := h'
        exact SqT.of (s' _ _ (s1 _ _ ht))
      · obtain ⟨v, rfl, s', xs, hx, he⟩ := h'
        obtain ⟨n, hn, rfl⟩ := map_get hi
        have il : i < row.length := (List.getElem?_eq_some_iff.mp hn).1
        have xl : xs.length ≤ i := by
          rw [he.length]
          exact efold_take_len ls _ row i
        refine ⟨_, rfl, .inl ⟨rfl, _, SqL.of hx⟩, _, rfl, _, rfl, _, rfl, _, rfl, _, _, rfl, rfl, by show 3 ≤ sizeLine; decide, fun T hT => ?_⟩
        have dt : D ≠ T := ne_of_none hx hT
        refine ⟨D, xs, .ref T, rfl, rfl, by rw [upd_ne dt]; exact hx, small_line (by omega), ?_⟩
        have gr := Grow.snoc (e := (n, (efold ls (sumOf ls row) (row.take i)).1, sumOf ls row - (efold ls (sumOf ls row) (row.take i)).1)) s' hD hx he hT
        have hl2 := (hl.s s1).s gr.1
        have hk1 := lenAt (hk n (List.mem_of_getElem? hn))
        refine ⟨_, rfl, _, rfl, _, rfl, l, _, n, _, rfl, rfl, sqR hl2, hk1, _, _, rfl, rfl, ?_⟩
        have fs : efold ls (sumOf ls row) (row.take (i + 1)) = estep ls (sumOf ls row) (efold ls (sumOf ls row) (row.take i)) n := foldS _ _ hn
        refine ⟨some (.int n), ?_, ?_⟩
        · rw [fs]
          rfl
        · rw [fs]
          exact gr
      · obtain ⟨v, rfl, s', hx⟩ := h'
        rw [List.length_map, List.take_length] at hx
        exact ⟨_, rfl, k D H' (s1.trans s') (s1.free hD) hx⟩
theorem sc_lClash : FnScope ["_law_comers", "_law_one", "_law_other"] ["_law_comers", "_law_one", "_law_other"] (defScope sLClash) := ⟨rfl, rfl, rfl, by decide +kernel, rfl, by decide +kernel, by decide +kernel⟩
theorem ok_lClash (F : FnP K "_law_clash" "_law_clash" sLClash f fd) (g : mg "_law_clash" = some (.ref f)) : Cal P w K mg base 1 "_law_clash" ["_law_comers", "_law_one", "_law_other"] spLClash := by
  refine ⟨f, fd, ?_, g, F.kp, F.bindsN fun _ _ _ _ _ _ us hl => match us, hl with | [_, _, _], _ => rfl⟩
  refine F.ok sc_lClash (fun vs H Q E h => ?_) (fun cdv A outer s H vs Q E hr h => ?_)
  · obtain ⟨c, x, y, a, b, rfl, _⟩ := h
    rfl
  · obtain ⟨c, x, y, a, b, rfl, ⟨xa, rfl, hx⟩, ⟨ya, rfl, hy⟩, c1, c2, k⟩ := h
    have nd := sc_lClash.nd
    refine ⟨_, PSs.nox (pss_cons (ps_if (PW.pt (pw_or (pt_cmpR op_ne (pe_ix ix_tup (pv 1) pe_int (fun _ _ => rfl)) (pe_ix ix_tup (pv 2) pe_int (fun _ _ => rfl)) (nomark _))
        (pw_or (pt_cmpR op_ge (pe_ix ix_tup (pv 1) pe_int (fun _ _ => rfl)) (pe_ix ix_tup (pv 2) pe_int (fun _ _ => rfl)) (nomark _))
        (pw_or1 (pt_cmpR op_lt (pe_ix ix_tup (pv 1) pe_int (fun _ _ => rfl)) (pe_ix ix_tup (pv 2) pe_int (fun _ _ => rfl)) (nomark _)))))) (pss_one (ps_ret pe_bl)) pss_nil)
      (pss_one (ps_ret (pe_cmpR op_le (pe_op op_sub (pe_ix ix_tup (pv 2) pe_int (fun _ _ => rfl)) (pe_ix ix_tup (pv 1) pe_int (fun _ _ => rfl)))
        (pe_op op_sub (pe_op op_add (pe_op op_mul (pv 0) (pe_op op_sub (pe_ix ix_tup (pv 1) pe_int (fun _ _ => rfl)) (pe_ix ix_tup (pv 2) pe_int (fun _ _ => rfl)))) (pv 0)) pe_int) (nomark _))))), ?_⟩
    refine ⟨_, rfl, xa, _, _, _, rfl, rfl, SqT.of hx, rfl, _, rfl, ya, _, _, _, rfl, rfl, SqT.of hy, rfl, rfl, _, rfl, ?_⟩
    refine ite2 (fun q1 => ?_) (fun q1 => ?_)
    · have q : clB c a b = false := decide_eq_false fun z => by
        have q1 : (!decide (V.int a.1 = V.int b.1)) = true := q1
        rw [decide_eq_true (congrArg V.int z.1)] at q1
        cases q1
      rw [q] at k
      exact k
    · have e1 : a.1 = b.1 := by
        have q1 : ¬ (!decide (V.int a.1 = V.int b.1)) = true := q1
        by_cases z : V.int a.1 = V.int b.1
        · exact V.int.inj z
        · rw [decide_eq_false z] at q1
          exact absurd rfl q1
      refine ⟨_, rfl, xa, _, _, _, rfl, rfl, SqT.of hx, rfl, _, rfl, ya, _, _, _, rfl, rfl, SqT.of hy, rfl, _, _, rfl, rfl, _, rfl, ?_⟩
      refine ite2 (fun q2 => ?_) (fun q2 => ?_)
      · have q2 : b.2.2 ≤ a.2.2 := of_decide_eq_true q2
        have q : clB c a b = false := decide_eq_false fun z => by
          have := z.2.1
          omega
        rw [q] at k
        exact k
      · have q2 : ¬ b.2.2 ≤ a.2.2 := fun z => q2 (decide_eq_true z)
        refine ⟨_, rfl, xa, _, _, _, rfl, rfl, SqT.of hx, rfl, _, rfl, ya, _, _, _, rfl, rfl, SqT.of hy, rfl, _, _, rfl, rfl, _, rfl, ?_⟩
        refine ite2 (fun q3 => ?_) (fun q3 => ?_)
        · have q3 : a.2.1 < b.2.1 := of_decide_eq_true q3
          have q : clB c a b = false := decide_eq_false fun z => by
            have := z.2.2.1
            omega
          rw [q] at k
          exact k
        · have q3 : ¬ a.2.1 < b.2.1 := fun z => q3 (decide_eq_true z)
          refine ⟨_, rfl, ya, _, _, _, rfl, rfl, SqT.of hy, rfl, _, rfl, xa, _, _, _, rfl, rfl, SqT.of hx, rfl, _, _, rfl, rfl, ?_⟩
          refine ⟨_, rfl, _, rfl, xa, _, _, _, rfl, rfl, SqT.of hx, rfl, _, rfl, ya, _, _, _, rfl, rfl, SqT.of hy, rfl, _, _, rfl, rfl, _, _, rfl, rfl, .inl ⟨by omega, by omega⟩, _, rfl, _, _, rfl, rfl, _, _, rfl, rfl, _, _, rfl, rfl, ?_⟩
          have q : decide (b.2.2 - a.2.2 ≤ c * (a.2.1 - b.2.1) + c - 1) = clB c a b := by
            unfold clB
            exact decide_eq_decide.mpr ⟨fun z => ⟨e1, by omega, by omega, z⟩, fun z => z.2.2.2⟩
          show Q (.bl (decide (b.2.2 - a.2.2 ≤ c * (a.2.1 - b.2.1) + c - 1))) H
          rw [q]
          exact k
end
end K9

set_option Elab.async false
set_option linter.all false
set_option maxRecDepth 100000
set_option maxHeartbeats 8000000
/-! _law_table_clashes. -/
namespace K9
open PySem PySem.Spec PyProof.Rows L2
open PySem.W (EachIs)
theorem lay_P (p : Pr) : (encP p).canLay0 = true := by simp [encP, encE, PyData.canLay0, PyData.canLayAll0]
theorem lays_P : ∀ ps : List Pr, PyData.canLayAll0 (ps.map encP) = true
  | [] => by simp [PyData.canLayAll0]
  | p :: ps => by
    rw [List.map_cons, PyData.canLayAll0, lay_P, lays_P ps]
    rfl
theorem depths_P : ∀ ps : List Pr, PyData.depthAll (ps.map encP) ≤ 2
  | [] => by simp [PyData.depthAll]
  | p :: ps => by
    have q := depths_P ps
    have d := depth_P p
    rw [List.map_cons, PyData.depthAll]
    omega
theorem shaped_P (p : Pr) : SeqAt.shaped (encP p) = true := by
  unfold SeqAt.shaped
  rw [lay_P, depth_P]
  rfl
theorem shaped_Ps (ps : List Pr) : SeqAt.shaped (.list (ps.map encP)) = true := by
  have q := depths_P ps
  have d : PyData.depth (.list (ps.map encP)) ≤ 64 := by
    rw [PyData.depth]
    omega
  unfold SeqAt.shaped
  rw [decide_eq_true d, Bool.and_true, PyData.canLay0]
  exact lays_P ps
theorem eqv_P (p q : Pr) : PyData.eqv (encP p) (encP q) = decide (p = q) := by
  obtain ⟨⟨a1, a2, a3⟩, b1, b2, b3⟩ := p
  obtain ⟨⟨c1, c2, c3⟩, d1, d2, d3⟩ := q
  rw [Bool.eq_iff_iff, decide_eq_true_iff]
  simp only [encP, encE, PyData.eqv, PyData.eqvAll, Bool.and_eq_true, beq_iff_eq, and_true, Prod.mk.injEq]
theorem any_P (ps : List Pr) (p : Pr) : ((ps.map encP).any fun z => PyData.eqv z (encP p)) = decide (p ∈ ps) := by
  rw [Bool.eq_iff_iff, decide_eq_true_iff, List.any_map, List.any_eq_true]
  constructor
  · rintro ⟨q, hq, e⟩
    have e : PyData.eqv (encP q) (encP p) = true := e
    rw [eqv_P] at e
    exact of_decide_eq_true e ▸ hq
  · intro h
    refine ⟨p, h, ?_⟩
    show PyData.eqv (encP p) (encP p) = true
    rw [eqv_P]
    exact decide_eq_true rfl
theorem dps_P {K : PySem.W.Frag} {H : Hp} : ∀ {xs : List V} {ps : List Pr}, EachIs (RP H) xs ps → DpAll K H xs (ps.map encP)
  | _, _, .nil => .nil
  | _, _, .cons h t => .cons (dp_RP h) (dps_P t)
theorem LP.dp {K : PySem.W.Frag} {H : Hp} {a : Addr} {ps : List Pr} (h : LP H a ps) : Dp K H (.ref a) (.list (ps.map encP)) := by
  obtain ⟨xs, h1, h2⟩ := h
  exact .lst (SqL.of h1) (dps_P h2)
theorem each_append {α β : Type} {R : α → β → Prop} : ∀ {as as' : List α} {bs bs' : List β}, EachIs R as bs → EachIs R as' bs' → EachIs R (as ++ as') (bs ++ bs')
  | _, _, _, _, .nil, h => h
  | _, _, _, _, .cons q t, h => .cons q (each_append t h)
def spLTable : Sp := fun vs H Q _ => ∃ (l r : Addr) (ls : List Int) (rws : List (List Int)) (c : Int), vs = [.ref l, .ref r, .int c] ∧ Rd H l (.tup (ls.map V.int)) ∧ RowsAt H r rws ∧ RowsOk ls rws ∧ 2 ≤ c ∧ c ≤ 4 ∧
  ∀ q H' ps, Same H H' → H q = none → LP H' q ps → IsCl leP (allE ls rws) c ps → Q (.ref q) H'
section
variable {P : Program} {w : World} {K : PySem.W.Frag} {mg : Str → Option Value} {base : Heap} {f : Addr} {fd : FuncData}
theorem sc_lTable : FnScope ["_law_loops_here", "_law_rows_here", "_law_comers", "_law_every", "_law_row_here", "_law_found", "_law_one", "_law_other"] ["_law_loops_here", "_law_rows_here", "_law_comers"] (defScope sLTable) := ⟨rfl, rfl, rfl, by decide +kernel, rfl, by decide +kernel, by decide +kernel⟩
theorem ok_lTable (F : FnP K "_law_table_clashes" "_law_table_clashes" sLTable f fd) (g : mg "_law_table_clashes" = some (.ref f)) (T : Txt mg) (C1 : Cal P w K mg base 1 "_law_entries" ["_law_loops_here", "_law_row_here"] spLEntries) (C2 : Cal P w K mg base 1 "_law_clash" ["_law_comers", "_law_one", "_law_other"] spLClash) :
    Cal P w K mg base 2 "_law_table_clashes" ["_law_loops_here", "_law_rows_here", "_law_comers"] spLTable := by
  obtain ⟨f1, fd1, G1, g1, k1, b1⟩ := C1.ex
  obtain ⟨f2, fd2, G2, g2, k2, b2⟩ := C2.ex
  refine ⟨f, fd, ?_, g, F.kp, F.bindsN fun _ _ _ _ _ _ us hl => match us, hl with | [_, _, _], _ => rfl⟩
  refine F.ok sc_lTable (fun vs H Q E h => ?_) (fun cdv A outer s H vs Q E hr h => ?_)
  · obtain ⟨l, r, ls, rws, c, rfl, _⟩ := h
    rfl
  · obtain ⟨l, r, ls, rws, c, rfl, hl, ⟨rs, hrs, ers⟩, RO, c1, c2, k⟩ := h
    have nd := sc_lTable.nd
    have e36 : (allE ls rws).length ≤ 3600 := allE_len RO
    refine ⟨_, PSs.nox (pss_cons (ps_set (i := 3) nd rfl (Or.inl rfl) (pe_lst pa_nil))
      (pss_cons (ps_for PassesOwn.never rfl (pi_tup (pv 1)) (pg_name (i := 4) nd rfl (Or.inl rfl))
        (pss_one (ps_set (i := 3) nd rfl (Or.inl rfl) (pe_op op_cat (pv 3) (pe_call G1 hr rfl g1 k1 b1 .nil pass0 (pa_cons (pv 0) (pa_cons (pv 4) pa_nil)))))))
      (pss_cons (ps_set (i := 5) nd rfl (Or.inl rfl) (pe_lst pa_nil))
      (pss_cons (ps_for PassesOwn.never rfl (pi_list (pv 3)) (pg_name (i := 6) nd rfl (Or.inl rfl))
        (pss_one (ps_for PassesOwn.never rfl (pi_list (pv 3)) (pg_name (i := 7) nd rfl (Or.inl rfl))
          (pss_one (ps_if (PW.pt (pw_and (pt_val (pe_call G2 hr rfl g2 k2 b2 .nil pass0 (pa_cons (pv 2) (pa_cons (pv 6) (pa_cons (pv 7) pa_nil)))))
            (pw_and1 (pt_cmpR (op_notInD (hu65 hr)) (pe_tup (pa_cons (pv 6) (pa_cons (pv 7) pa_nil))) (pv 5) (by rfl)))))
            (pss_one (ps_expr (pe_bm PySem.F.plainAttrs_list PySem.F.slot_list_append PySem.F.type_list_append mt_append (pv 5) (pa_cons (pe_tup (pa_cons (pv 6) (pa_cons (pv 7) pa_nil))) pa_nil)))) pss_nil)))))
      (pss_one (ps_ret (pe_callB (cr_sortP hr.units) (by rfl) T.sorted (by decide +kernel) (pa_cons (pv 5) pa_nil)))))))), ?_⟩
    -- every
    refine ⟨Nat.zero_le _, fun e0 he0 => ?_⟩
    have s0 : Same H (upd H e0 (.lst [])) := same_new he0
    refine ⟨_, rfl, r, rfl, ⟨rs, SqT.of (s0 _ _ hrs)⟩, for_tup (K := K) (a := r) (xs := rs) (fun i σ H' => ∃ (ev : Addr) (v : Option V), σ = [some (.ref l), some (.ref r), some (.int c), some (.ref ev), v, none, none, none] ∧ Same H H' ∧ LE H' ev (allE ls (rws.take i)))
      ⟨e0, none, rfl, s0, [], upd_same, .nil⟩ (fun i σ H' _ h' => ?_) (fun i x σ H' hi h' => ?_) (fun σ H1 h' => ?_)⟩
    · obtain ⟨_, _, _, s', _⟩ := h'
      exact SqT.of (s' _ _ hrs)
    · obtain ⟨ev, v, rfl, s', le⟩ := h'
      obtain ⟨row, hrow, a, rfl, ha⟩ := each_get ers hi
      have ok := RO.row i row hrow
      refine ⟨_, rfl, _, rfl, _, rfl, l, a, ls, row, rfl, hl.s s', s' _ _ ha, ok.len, ok.rng, fun q H3 s3 hq leq => ?_⟩
      obtain ⟨xs, hx, ex⟩ := le.fra (Fra.of s3)
      obtain ⟨zs, hz, ez⟩ := leq
      have al := allE_take_len RO i
      have r60 := ok.len
      refine ⟨ev, q, xs, zs, rfl, rfl, hx, hz, small_line' ?_, fun p hp => ?_⟩
      · rw [ex.length, ez.length, ents_len]
        omega
      · refine ⟨p, _, rfl, (s'.trans s3).trans (same_new hp), xs ++ zs, upd_same, ?_⟩
        rw [allE_snoc ls hrow]
        exact EachIs.ts_RE (sts (same_new hp)) (each_append ex ez)
    · obtain ⟨ev, v, rfl, s1, le⟩ := h'
      have rl : rs.length = rws.length := ers.length
      rw [rl, List.take_length] at le
      obtain ⟨xs, hx, ex⟩ := id le
      have xl : xs.length = (allE ls rws).length := ex.length
      -- found
      refine ⟨Nat.zero_le _, fun D hD => ?_⟩
      have sD : Same H1 (upd H1 D (.lst [])) := same_new hD
      refine ⟨_, rfl, ev, rfl, ⟨xs, SqL.of (sD _ _ hx)⟩, for_list (K := K) (a := ev) (xs := xs) (fun i σ H' => ∃ v4 v u : Option V, σ = [some (.ref l), some (.ref r), some (.int c), some (.ref ev), v4, some (.ref D), v, u] ∧ Same H1 H' ∧ LP H' D (out (lStep c) (allE ls rws) ((allE ls rws).take i)))
        ⟨v, none, none, rfl, sD, [], upd_same, .nil⟩ (fun i σ H' _ h' => ?_) (fun i x σ H' hi h' => ?_) (fun σ H2 h' => ?_)⟩
      · obtain ⟨_, _, _, _, s', _⟩ := h'
        exact SqL.of (s' _ _ hx)
      · obtain ⟨v4, v6, u, rfl, s', lp⟩ := h'
        obtain ⟨a, ha, oa, rfl, hoa⟩ := each_get ex hi
        have il : i < xs.length := (List.getElem?_eq_some_iff.mp hi).1
        refine ⟨_, rfl, ev, rfl, ⟨xs, SqL.of (s' _ _ hx)⟩, for_list (K := K) (a := ev) (xs := xs) (fun j σ H3 => ∃ u : Option V, σ = [some (.ref l), some (.ref r), some (.int c), some (.ref ev), v4, some (.ref D), some (.ref oa), u] ∧ Same H1 H3 ∧ LP H3 D (((allE ls rws).take j).foldl (lStep c a) (out (lStep c) (allE ls rws) ((allE ls rws).take i))))
          ⟨u, rfl, s', lp⟩ (fun j σ H3 _ h3 => ?_) (fun j x σ H3 hj h3 => ?_) (fun σ H3 h3 => ?_)⟩
        · obtain ⟨_, _, s3, _⟩ := h3
          exact SqL.of (s3 _ _ hx)
        · obtain ⟨u3, rfl, s3, lp3⟩ := h3
          obtain ⟨b, hb, ob, rfl, hob⟩ := each_get ex hj
          have jl : j < xs.length := (List.getElem?_eq_some_iff.mp hj).1
          have h3a : RE H3 (.ref oa) a := ⟨oa, rfl, s3 _ _ hoa⟩
          have h3b : RE H3 (.ref ob) b := ⟨ob, rfl, s3 _ _ hob⟩
          have yl : (((allE ls rws).take j).foldl (lStep c a) (out (lStep c) (allE ls rws) ((allE ls rws).take i))).length < 16777216 := at_len (lStep_len c) e36 (by omega) (by omega) a
          have ff := foldS (lStep c a) (out (lStep c) (allE ls rws) ((allE ls rws).take i)) hb
          generalize ((allE ls rws).take j).foldl (lStep c a) (out (lStep c) (allE ls rws) ((allE ls rws).take i)) = fs at lp3 yl ff
          have skip : ∀ H4, Same H3 H4 → ¬ (clB c a b = true ∧ (a, b) ∉ fs) → ∃ u : Option V, [some (V.ref l), some (V.ref r), some (V.int c), some (V.ref ev), v4, some (V.ref D), some (V.ref oa), some (V.ref ob)] = [some (V.ref l), some (V.ref r), some (V.int c), some (V.ref ev), v4, some (V.ref D), some (V.ref oa), u] ∧ Same H1 H4 ∧
              LP H4 D (((allE ls rws).take (j + 1)).foldl (lStep c a) (out (lStep c) (allE ls rws) ((allE ls rws).take i))) := fun H4 s4 z => by
            refine ⟨_, rfl, s3.trans s4, ?_⟩
            rw [ff]
            unfold lStep
            rw [if_neg z]
            exact lp3.same s4
          refine ⟨_, rfl, _, rfl, _, rfl, c, _, _, a, b, rfl, h3a, h3b, c1, c2, _, rfl, ?_⟩
          refine ite2 (fun q1 => ?_) (fun q1 => ?_)
          · refine ⟨_, rfl, _, rfl, by show 2 ≤ sizeLine; decide, fun T hT => ?_⟩
            have sT : Same H3 (upd H3 T (.tup [.ref oa, .ref ob])) := same_new hT
            have lpT := lp3.same sT
            have rpT : RP (upd H3 T (.tup [.ref oa, .ref ob])) (.ref T) (a, b) := ⟨T, .ref oa, .ref ob, rfl, upd_same, h3a.ts (sts sT), h3b.ts (sts sT)⟩
            refine ⟨_, rfl, encP (a, b), fs.map encP, dp_RP rpT, lpT.dp, shaped_P _, shaped_Ps _, _, rfl, ?_⟩
            rw [any_P]
            refine ite2 (fun q2 => ?_) (fun q2 => ?_)
            · have q2 : (a, b) ∉ fs := fun z => by
                rw [decide_eq_true z] at q2
                cases q2
              obtain ⟨ys, hy, ey⟩ := lpT
              refine ⟨_, rfl, .inl ⟨rfl, _, SqL.of hy⟩, _, rfl, _, rfl, by show 2 ≤ sizeLine; decide, fun T2 hT2 => ?_⟩
              have gr := GrowP (p := (a, b)) (s3.trans sT) hD hy ey (h3a.ts (sts sT)) (h3b.ts (sts sT)) hT2
              refine ⟨D, ys, .ref T2, rfl, rfl, by rw [upd_ne (ne_of_none hy hT2)]; exact hy, small_line (by rw [ey.length]; exact yl), ?_⟩
              refine ⟨_, rfl, gr.1, ?_⟩
              rw [ff]
              unfold lStep
              rw [if_pos ⟨q1, q2⟩]
              exact gr.2
            · refine skip _ sT fun z => q2 ?_
              rw [decide_eq_false z.2]
              rfl
          · exact skip _ (Same.refl _) fun z => q1 z.1
        · obtain ⟨u3, rfl, s3, lp3⟩ := h3
          refine ⟨_, _, _, rfl, s3, ?_⟩
          unfold out
          rw [foldS _ _ ha]
          rw [xl, List.take_length] at lp3
          exact lp3
      · obtain ⟨v4, v6, u, rfl, s2, ys, hy, ey⟩ := h'
        rw [xl, List.take_length] at ey
        refine ⟨_, rfl, D, ys, _, RP H2, rfl, SqL.of hy, ey, fun x b h => dp_RP h, fun q zs hq hz => ?_⟩
        exact k q _ _ ((s1.trans s2).trans (same_new hq)) (s1.free (s2.free hq)) ⟨zs, upd_same, EachIs.ts_RP (sts (same_new hq)) hz⟩ (IsCl.sort (sortP_asc _) (List.mergeSort_perm _ _) (lAll c _))
end
end K9

set_option Elab.async false
set_option linter.all false
set_option maxRecDepth 100000
set_option maxHeartbeats 16000000
/-! law. -/
namespace K9
open PySem PySem.Spec PyProof.Rows L2
open PySem.W (EachIs)
theorem eqv_Ps (ps : List Pr) : PyData.eqv (.list (ps.map encP)) (.list (ps.map encP)) = true := SeqAt.eqv_refl _ (SeqAt.canLay_of_shaped (shaped_Ps ps))
theorem cut_take (xs : List V) (k : Nat) : cutV xs none (some (k : Int)) = xs.take k := by
  unfold cutV
  rw [HT.sIx_none, HT.sIx_nat, List.drop_zero, Nat.sub_zero]
  by_cases h : k ≤ xs.length
  · rw [Nat.min_eq_left h]
  · rw [Nat.min_eq_right (by omega), List.take_length, List.take_of_length_le (by omega)]
theorem slice_of {K : PySem.W.Frag} {x : V} {lo hi : Option Int} {H : Hp} {Q : VK} (a : Addr) (xs : List V) (ex : x = .ref a) (hx : SqT K H a xs)
    (h : ∀ (le : Addr) (H' : Hp), ((le = a ∧ H' = H ∧ HT.sIx xs.length xs.length hi = xs.length) ∨ (H le = none ∧ H' = upd H le (.tup (cutV xs lo hi)))) → Q (.ref le) H') : rSlA K x lo hi H Q :=
  ⟨a, xs, ex, hx, fun hw => h a H (.inl ⟨rfl, rfl, hw.2⟩), fun _ p hp => h p _ (.inr ⟨hp, rfl⟩)⟩
def spLaw (K : PySem.W.Frag) : Sp := fun vs H Q _ => ∃ (a : Addr) (ns : List Int), vs = [.ref a] ∧ SqL K H a (ns.map V.int) ∧ ∀ H', Q (.bl true) H'
def nLaw : List Str := ["_law_script", "_law_tape_here", "_law_loops_here", "_law_rows_here", "_law_table", "_law_fewer", "_law_comers", "_law_due", "_law_told", "_law_less", "_law_part", "_law_pair"]
section
variable {P : Program} {w : World} {K : PySem.W.Frag} {mg : Str → Option Value} {base : Heap} {f : Addr} {fd : FuncData} {C : Addr}
theorem sc_law : FnScope ["_law_script", "_law_tape_here", "_law_loops_here", "_law_rows_here", "_law_table", "_law_fewer", "_law_comers", "_law_due", "_law_told", "_law_less", "_law_part", "_law_pair"] ["_law_script"] (defScope sLaw) := ⟨rfl, rfl, rfl, by decide +kernel, rfl, by decide +kernel, by decide +kernel⟩
theorem ok_law (F : FnP K "law" "law" sLaw f fd) (T : Txt mg) {fI : Addr} {fdI : FuncData} (M : Mk K C fI) (GI : FnOk P w K mg base CX0 5 fI fdI ["self", "loops", "rows"] (spInit C)) (bI : Binds K fdI ["self", "loops", "rows"] []) (gC : mg "Table" = some (.ref C))
    (C1 : Cal P w K mg base 1 "_law_tape" ["_law_script"] (spTape K)) (C2 : Cal P w K mg base 2 "_law_loops" ["_law_tape_here", "_law_most", "_law_longest"] spLoops) (C3 : Cal P w K mg base 3 "_law_rows" ["_law_tape_here", "_law_loops_here", "_law_bound"] spRows)
    (C4 : Cal P w K mg base 1 "_law_pick" ["_law_tape_here", "_law_size"] spPick) (C5 : Cal P w K mg base 2 "_law_table_clashes" ["_law_loops_here", "_law_rows_here", "_law_comers"] spLTable) (C6 : Cal P w K mg base 4 "clashes" ["table", "comers"] (spClashes C))
    (C7 : Cal P w K mg base 5 "safe" ["table", "comers"] (spSafe C)) (C8 : Cal P w K mg base 1 "_law_flag" ["_law_told", "_law_due"] spFlag) : FnOk P w K mg base CX0 7 f fd ["_law_script"] (spLaw K) := by
  obtain ⟨f1, fd1, G1, g1, k1, b1⟩ := C1.ex
  obtain ⟨f2, fd2, G2, g2, k2, b2⟩ := C2.ex
  obtain ⟨f3, fd3, G3, g3, k3, b3⟩ := C3.ex
  obtain ⟨f4, fd4, G4, g4, k4, b4⟩ := C4.ex
  obtain ⟨f5, fd5, G5, g5, k5, b5⟩ := C5.ex
  obtain ⟨f6, fd6, G6, g6, k6, b6⟩ := C6.ex
  obtain ⟨f7, fd7, G7, g7, k7, b7⟩ := C7.ex
  obtain ⟨f8, fd8, G8, g8, k8, b8⟩ := C8.ex
  refine F.ok sc_law (fun vs H Q E h => ?_) (fun cdv A outer s H vs Q E hr h => ?_)
  · obtain ⟨a, ns, rfl, _⟩ := h
    rfl
  · obtain ⟨a, ns, rfl, hS, k⟩ := h
    have nd := sc_law.nd
    have h1 : Room 1 _ := hr.mono (by decide)
    have h2 : Room 2 _ := hr.mono (by decide)
    have h3 : Room 3 _ := hr.mono (by decide)
    have h4 : Room 4 _ := hr.mono (by decide)
    have h5 : Room 5 _ := hr.mono (by decide)
    refine ⟨_, PSs.nox (pss_cons (ps_set (i := 1) nd rfl (Or.inl rfl) (pe_call G1 h1 rfl g1 k1 b1 .nil pass0 (pa_cons (pv 0) pa_nil)))
      (pss_cons (ps_set (i := 2) nd rfl (Or.inl rfl) (pe_call G2 h2 rfl g2 k2 b2 .nil pass0 (pa_cons (pv 1) (pa_cons pe_int (pa_cons pe_int pa_nil)))))
      (pss_cons (ps_set (i := 3) nd rfl (Or.inl rfl) (pe_call G3 h3 rfl g3 k3 b3 .nil pass0 (pa_cons (pv 1) (pa_cons (pv 2) (pa_cons (pe_op op_add pe_int (pe_call G4 h1 rfl g4 k4 b4 .nil pass0 (pa_cons (pv 1) (pa_cons pe_int pa_nil)))) pa_nil)))))
      (pss_cons (ps_set (i := 4) nd rfl (Or.inr rfl) (pe_make M GI hr rfl gC bI .nil pass0 (pa_cons (pv 2) (pa_cons (pv 3) pa_nil))))
      (pss_cons (ps_set (i := 5) nd rfl (Or.inl rfl) (pe_lst pa_nil))
      (pss_cons (ps_for PassesOwn.never rfl (pi_list (pe_lst (pa_cons pe_int (pa_cons pe_int (pa_cons pe_int pa_nil))))) (pg_name (i := 6) nd rfl (Or.inr rfl))
        (pss_cons (ps_set (i := 7) nd rfl (Or.inl rfl) (pe_call G5 h2 rfl g5 k5 b5 .nil pass0 (pa_cons (pv 2) (pa_cons (pv 3) (pa_cons (pv 6) pa_nil)))))
        (pss_cons (ps_set (i := 8) nd rfl (Or.inr rfl) (pe_call G6 h4 rfl g6 k6 b6 .nil pass0 (pa_cons (pv 4) (pa_cons (pv 6) pa_nil))))
        (pss_cons (ps_if (PW.pt (pw_or (pt_cmpR (op_neD hr.units) (pv 8) (pv 7) (nomark _))
          (pw_or (pt_not (pt_val (pe_callB call_isi (by rfl) T.isinst (by decide +kernel) (pa_cons (pv 8) (pa_cons (pe_bltn (v := .ty "list") (by rfl) T.list (by decide +kernel) rfl) pa_nil)))))
          (pw_or1 (pt_not (pt_val (pe_call G8 h1 rfl g8 k8 b8 .nil pass0 (pa_cons (pe_call G7 h5 rfl g7 k7 b7 .nil pass0 (pa_cons (pv 4) (pa_cons (pv 6) pa_nil)))
            (pa_cons (pe_cmpR op_eq (pe_callB call_len_seq (by rfl) T.len boot_len (pa_cons (pv 7) pa_nil)) pe_int (nomark _)) pa_nil))))))))) (pss_one ps_never) pss_nil)
        (pss_cons (ps_if (pt_cmpR op_gt (pe_callB call_len_seq (by rfl) T.len boot_len (pa_cons
          (pe_lc (own := [("_law_pair", 11)]) (g := gName 11) rfl nd (pi_list (pv 5)) (blkOk_by (N := nLaw) (sc := defScope sLaw) (own := [("_law_pair", 11)]) (by decide +kernel)) (fun _ _ _ _ _ => pg_name (i := 11) nd rfl (Or.inl rfl))
            (fun _ _ _ _ _ => pts_one (pt_cmpR (r := rNotInD K) (op_notInD (hu65 hr)) (pv 11) (pv 8) (by rfl))) (fun _ _ _ _ _ => pv 11)) pa_nil)) pe_int (nomark _)) (pss_one ps_never) pss_nil)
        (pss_cons (ps_set (i := 5) nd rfl (Or.inl rfl) (pv 7))
        (pss_cons (ps_expr (pe_bm PySem.F.plainAttrs_list PySem.F.slot_list_append PySem.F.type_list_append mt_append (pv 8) (pa_cons pe_non pa_nil)))
        (pss_one (ps_if (pt_cmpR (op_neD hr.units) (pe_call G6 h4 rfl g6 k6 b6 .nil pass0 (pa_cons (pv 4) (pa_cons (pv 6) pa_nil))) (pv 7) (nomark _)) (pss_one ps_never) pss_nil)))))))))
      (pss_cons (ps_set (i := 6) nd rfl (Or.inr rfl) (pe_op op_add pe_int (pe_call G4 h1 rfl g4 k4 b4 .nil pass0 (pa_cons (pv 1) (pa_cons pe_int pa_nil)))))
      (pss_cons (ps_set (i := 9) nd rfl (Or.inl rfl) (pe_slice sl_tupA (pv 3) po_none (po_some (pe_op op_add pe_int (pe_call G4 h1 rfl g4 k4 b4 .nil pass0 (pa_cons (pv 1) (pa_cons (pe_callB call_len_seq (by rfl) T.len boot_len (pa_cons (pv 3) pa_nil)) pa_nil)))))))
      (pss_cons (ps_set (i := 10) nd rfl (Or.inl rfl) (pe_call G6 h4 rfl g6 k6 b6 .nil pass0 (pa_cons (pe_make M GI hr rfl gC bI .nil pass0 (pa_cons (pv 2) (pa_cons (pv 9) pa_nil))) (pa_cons (pv 6) pa_nil))))
      (pss_one (ps_ret (pe_cmpR op_eq (pe_callB call_len_seq (by rfl) T.len boot_len (pa_cons
          (pe_lc (own := [("_law_pair", 11)]) (g := gName 11) rfl nd (pi_list (pv 10)) (blkOk_by (N := nLaw) (sc := defScope sLaw) (own := [("_law_pair", 11)]) (by decide +kernel)) (fun _ _ _ _ _ => pg_name (i := 11) nd rfl (Or.inl rfl))
            (fun _ _ _ _ _ => pts_one (pt_cmpR (r := rNotInD K) (op_notInD (hu65 hr)) (pv 11) (pe_call G6 h4 rfl g6 k6 b6 .nil pass0 (pa_cons (pv 4) (pa_cons (pv 6) pa_nil))) (by rfl))) (fun _ _ _ _ _ => pv 11)) pa_nil)) pe_int (nomark _))))))))))))), ?_⟩
    -- tape, loops, rows
    refine ⟨_, rfl, a, ns, rfl, hS, fun t z H1 s1 ht0 T1 => ?_⟩
    refine ⟨_, rfl, t, z, rfl, T1, fun l ls H2 F2 T2 LT2 LO => ?_⟩
    refine ⟨_, rfl, _, rfl, _, rfl, t, z, 10, rfl, T2, by omega, by omega, fun q H3 q0 q1 F3 T3 => ⟨_, _, rfl, rfl, ?_⟩⟩
    refine ⟨t, z, l, ls, _, rfl, T3, LT2.f F3, LO, by omega, by omega, fun r rws H4 F4 T4 RA4 RO r10 => ?_⟩
    have LT4 := (LT2.f F3).f F4
    -- Table(loops, rows)
    refine ⟨_, rfl, _, rfl, ?_⟩
    intro p dx np ndx ne
    have sM : Same H4 (upd (upd H4 dx (.own p)) p (.ins C dx [])) := fun b o e => by
      rw [upd_ne (ne_of_none e np), upd_ne (ne_of_none e ndx)]
      exact e
    refine ⟨p, dx, l, r, ls, rws, rfl, upd_same, LT4.rd.s sM, RA4.ts (sts sM), LO, RO, fun H5 kp5 TA5 => ⟨rfl, ?_⟩⟩
    have s5 : Same H4 H5 := Same.made np ndx kp5
    -- fewer, [2, 3, 4]
    refine ⟨Nat.zero_le _, fun fw0 hfw0 => ?_⟩
    refine ⟨by show 3 ≤ sizeLine; decide, fun L hL => ?_⟩
    have s6 : Same H5 (upd (upd H5 fw0 (.lst [])) L (.lst [.int 2, .int 3, .int 4])) := (same_new hfw0).trans (same_new hL)
    have hfw6 : (upd (upd H5 fw0 (.lst [])) L (.lst [.int 2, .int 3, .int 4])) fw0 = some (.lst []) := same_new hL _ _ upd_same
    have hL6 : (upd (upd H5 fw0 (.lst [])) L (.lst [.int 2, .int 3, .int 4])) L = some (.lst [.int 2, .int 3, .int 4]) := upd_same
    refine ⟨L, rfl, ⟨_, SqL.of upd_same⟩, ?_⟩
    generalize upd (upd H5 fw0 (.lst [])) L (.lst [.int 2, .int 3, .int 4]) = H6 at s6 hfw6 hL6 ⊢
    have T6 : TapeOk H6 t z := (T4.same s5).same s6
    have TA6 : TableAt C H6 p ls rws := TA5.fra (Fra.of s6)
    have LT6 : LoopT H6 l ls := (LT4.f (Fra.of s5)).f (Fra.of s6)
    have RA6 : RowsAt H6 r rws := (RA4.ts (sts s5)).ts (sts s6)
    refine for_list (K := K) (a := L) (xs := [.int 2, .int 3, .int 4])
      (fun i σ H' => ∃ (fw : Addr) (qs : List Pr) (v6 v7 v8 : Option V), σ = [some (.ref a), some (.ref t), some (.ref l), some (.ref r), some (.ref p), some (.ref fw), v6, v7, v8, none, none, none] ∧ Same H6 H' ∧ LP H' fw qs ∧ ∀ x ∈ qs, Cl (allE ls rws) (1 + (i : Int)) x)
      ⟨fw0, [], none, none, none, rfl, Same.refl _, ⟨[], hfw6, .nil⟩, fun x hx => (by cases hx)⟩ (fun i σ H' _ h' => ?_) (fun i x σ H' hi h' => ?_) (fun σ H7 h' => ?_)
    · obtain ⟨_, _, _, _, _, _, s', _⟩ := h'
      exact SqL.of (s' _ _ hL6)
    · obtain ⟨fw, qs, v6, v7, v8, rfl, s', lpf, hqs⟩ := h'
      have i3 : i < 3 := (List.getElem?_eq_some_iff.mp hi).1
      obtain ⟨c, rfl, hc⟩ : ∃ c : Int, x = V.int c ∧ c = 2 + (i : Int) := by
        rcases (show i = 0 ∨ i = 1 ∨ i = 2 by omega) with e | e | e
        · subst e
          exact ⟨2, (Option.some.inj hi).symm, rfl⟩
        · subst e
          exact ⟨3, (Option.some.inj hi).symm, rfl⟩
        · subst e
          exact ⟨4, (Option.some.inj hi).symm, rfl⟩
      have TA' := TA6.fra (Fra.of s')
      -- due, told
      refine ⟨_, rfl, _, rfl, _, rfl, l, r, ls, rws, c, rfl, (LT6.f (Fra.of s')).rd, RA6.ts (sts s'), RO, by omega, by omega, fun d H8 ds s8 hd lpd cld => ?_⟩
      refine ⟨_, rfl, _, rfl, p, c, ls, rws, rfl, TA'.fra (Fra.of s8), RO, by omega, by omega, fun tq H9 ts s9 htq lpt clt => ?_⟩
      have e1 : ts = ds := IsCl.one leP_anti (fun _ => Iff.rfl) clt cld
      subst e1
      have lpd9 := lpd.same s9
      obtain ⟨xs, hx, ex⟩ := id lpt
      -- told != due
      refine ⟨_, rfl, _, rfl, _, _, lpt.dp, lpd9.dp, shaped_Ps _, shaped_Ps _, _, rfl, ?_⟩
      rw [eqv_Ps]
      refine iteF ?_
      refine ⟨_, rfl, .ref tq, .ty "list", .type "list", .type "list", true, rfl, .ty "list", .base (.lst hx), kit_ty (by decide +kernel), true, rfl, ?_⟩
      refine iteF ?_
      refine ⟨_, rfl, _, rfl, p, c, ls, rws, rfl, (TA'.fra (Fra.of s8)).fra (Fra.of s9), RO, by omega, by omega, fun H10 ps s10 clp => ?_⟩
      have e2 : ps = ts := IsCl.one leP_anti (fun _ => Iff.rfl) clp clt
      subst e2
      have lpd10 := lpd9.same s10
      obtain ⟨zs, hz, ez⟩ := id lpd10
      have e3 : decide (V.int (zs.length : Nat) = V.int 0) = decide (ps = []) := by
        refine decide_eq_decide.mpr ⟨fun y => ?_, fun y => ?_⟩
        · have y : ((zs.length : Nat) : Int) = 0 := V.int.inj y
          rw [ez.length] at y
          exact List.length_eq_zero_iff.mp (by omega)
        · rw [ez.length, y]
          rfl
      refine ⟨_, rfl, d, zs, rfl, .inl (SqL.of hz), rfl, decide (ps = []), ?_, true, rfl, ?_⟩
      · show [V.bl (decide (ps = [])), V.bl (decide (V.int (zs.length : Nat) = V.int 0))] = _
        rw [e3]
      refine iteF ?_
      -- fewer in told
      have lpt10 := lpt.same s10
      have lpf10 := ((lpf.same s8).same s9).same s10
      obtain ⟨ys, hy, ey⟩ := id lpf10
      refine ⟨_, rfl, fw, rfl, ⟨ys, SqL.of hy⟩, fun D hD => ?_⟩
      refine lc_list (K := K) (a := fw) (xs := ys) (fun j H11 => Same H10 H11 ∧ H11 D = some (.lst [])) ⟨same_new hD, upd_same⟩ (fun j H11 _ h11 => SqL.of (h11.1 _ _ hy)) (fun j y H11 hj h11 => ?_) (fun H11 h11 => ?_)
      · obtain ⟨s11, hD11⟩ := h11
        obtain ⟨pr, hpr, rp⟩ := each_get ey hj
        have mem : pr ∈ ps := (clt.mem pr).mpr ((hqs pr (List.mem_of_getElem? hpr)).mono (by omega))
        refine ⟨rfl, ?_⟩
        refine ⟨_, rfl, _, rfl, encP pr, ps.map encP, dp_RP (rp.ts (sts s11)), (lpt10.same s11).dp, shaped_P _, shaped_Ps _, _, rfl, ?_⟩
        rw [any_P, decide_eq_true mem]
        exact ⟨s11, hD11⟩
      · obtain ⟨s11, hD11⟩ := h11
        refine ⟨D, [], rfl, .inl (SqL.of hD11), _, _, rfl, rfl, _, rfl, ?_⟩
        rw [decide_eq_false (show ¬ ((0 : Int) < (([] : List V).length : Int)) by decide)]
        refine iteF ?_
        -- fewer = due; told.append(None)
        have hx11 : H11 tq = some (.lst xs) := s11 _ _ (s10 _ _ hx)
        have cl36 : ps.length ≤ 12960000 := by
          have pa := lAll c (allE ls rws)
          have q2 : ps.Perm (out (lStep c) (allE ls rws) (allE ls rws)) := (List.perm_ext_iff_of_nodup clt.nd pa.1).mpr fun y => (clt.mem y).trans (pa.2 y).symm
          rw [q2.length_eq]
          exact out_all_len (lStep_len c) (allE_len RO)
        refine ⟨_, rfl, _, rfl, .inl ⟨rfl, _, SqL.of hx11⟩, tq, xs, .non, rfl, rfl, hx11, small_line (by rw [ex.length]; omega), ?_⟩
        have s12 : Same H8 (upd H11 tq (.lst (xs ++ [.non]))) := same_set ((s9.trans s10).trans s11) htq
        generalize upd H11 tq (.lst (xs ++ [.non])) = H12 at s12 ⊢
        -- clashes again
        refine ⟨_, rfl, _, rfl, p, c, ls, rws, rfl, (TA'.fra (Fra.of s8)).fra (Fra.of s12), RO, by omega, by omega, fun q7 H13 ps7 s13 hq7 lp7 cl7 => ?_⟩
        have e4 : ps7 = ps := IsCl.one leP_anti (fun _ => Iff.rfl) cl7 clt
        subst e4
        have lpd13 := (lpd.same s12).same s13
        refine ⟨_, rfl, _, _, lp7.dp, lpd13.dp, shaped_Ps _, shaped_Ps _, _, rfl, ?_⟩
        rw [eqv_Ps]
        refine iteF ?_
        refine ⟨d, ps7, _, _, _, rfl, ((s'.trans s8).trans s12).trans s13, lpd13, fun y hy2 => ?_⟩
        have q := (clt.mem y).mp hy2
        rw [show (1 : Int) + ((i + 1 : Nat) : Int) = c by omega]
        exact q
    · obtain ⟨fw, qs, v6, v7, v8, rfl, s7, _, _⟩ := h'
      have T7 := T6.same s7
      have F7 : Fra H6 H7 := Fra.of s7
      -- comers = 2 + pick(3)
      refine ⟨_, rfl, t, z, 3, rfl, T7, by omega, by omega, fun u H8 u0 u1 F8 T8 => ⟨_, _, rfl, rfl, ?_⟩⟩
      have RA8 : RowsAt H8 r rws := RA6.ts (F7.trans F8).ts
      obtain ⟨rs8, hr8, er8⟩ := id RA8
      have rl8 : rs8.length = rws.length := er8.length
      have rp := RO.pos
      have rm := RO.len
      -- less
      refine ⟨_, rfl, _, rfl, _, rfl, r, rs8, rfl, .inr (SqT.of hr8), t, z, _, rfl, T8, by omega, by omega, fun m H9 m0 m1 F9 T9 => ⟨_, _, rfl, rfl, _, rfl, ?_⟩⟩
      obtain ⟨kk, hkk⟩ : ∃ kk : Nat, (1 : Int) + m = (kk : Int) := ⟨(1 + m).toNat, by omega⟩
      have kk0 : 0 < kk := by omega
      have F9' : Fra H6 H9 := (F7.trans F8).trans F9
      have hr9 : H9 r = some (.tup rs8) := F9 _ _ hr8 rfl
      have er9 : EachIs (RI H9) rs8 rws := EachIs.ts_RI F9.ts er8
      have TA9 : TableAt C H9 p ls rws := TA6.fra F9'
      have LT9 : LoopT H9 l ls := LT6.f F9'
      have RO9 : RowsOk ls (rws.take kk) := RO.take kk0
      refine slice_of r rs8 rfl (SqT.of hr9) fun le H10 hor => ?_
      obtain ⟨s10, RA10⟩ : Same H9 H10 ∧ RowsAt H10 le (rws.take kk) := by
        rcases hor with ⟨rfl, rfl, hw⟩ | ⟨hle, rfl⟩
        · refine ⟨Same.refl _, rs8, hr9, ?_⟩
          rw [hkk, HT.sIx_nat] at hw
          rw [List.take_of_length_le (by omega)]
          exact er9
        · rw [hkk, cut_take]
          exact ⟨same_new hle, _, upd_same, each_take kk (EachIs.ts_RI (sts (same_new hle)) er9)⟩
      have LT10 := LT9.f (Fra.of s10)
      have TA10 := TA9.fra (Fra.of s10)
      -- part = clashes(Table(loops, less), comers)
      refine ⟨_, rfl, _, rfl, ?_⟩
      intro p2 dx2 np2 ndx2 ne2
      have sM2 : Same H10 (upd (upd H10 dx2 (.own p2)) p2 (.ins C dx2 [])) := fun b o e => by
        rw [upd_ne (ne_of_none e np2), upd_ne (ne_of_none e ndx2)]
        exact e
      refine ⟨p2, dx2, l, le, ls, rws.take kk, rfl, upd_same, LT10.rd.s sM2, RA10.ts (sts sM2), LO, RO9, fun H11 kp11 TA11 => ⟨rfl, ?_⟩⟩
      have s11 : Same H10 H11 := Same.made np2 ndx2 kp11
      refine ⟨_, rfl, p2, 2 + u, ls, rws.take kk, rfl, TA11, RO9, by omega, by omega, fun pq H12 ps s12 hpq lp12 cl12 => ?_⟩
      have TA12 : TableAt C H12 p ls rws := (TA10.fra (Fra.of s11)).fra (Fra.of s12)
      obtain ⟨ys, hy, ey⟩ := id lp12
      -- each is in clashes(table, comers)
      refine ⟨_, rfl, pq, rfl, ⟨ys, SqL.of hy⟩, fun D hD => ?_⟩
      refine lc_list (K := K) (a := pq) (xs := ys) (fun j H13 => Same H12 H13 ∧ H13 D = some (.lst [])) ⟨same_new hD, upd_same⟩ (fun j H13 _ h13 => SqL.of (h13.1 _ _ hy)) (fun j y H13 hj h13 => ?_) (fun H13 h13 => ?_)
      · obtain ⟨s13, hD13⟩ := h13
        obtain ⟨pr, hpr, rp⟩ := each_get ey hj
        have cl := (cl12.mem pr).mp (List.mem_of_getElem? hpr)
        refine ⟨rfl, ?_⟩
        refine ⟨_, rfl, _, rfl, _, rfl, p, 2 + u, ls, rws, rfl, TA12.fra (Fra.of s13), RO, by omega, by omega, fun q2 H14 ps2 s14 hq2 lp14 cl14 => ?_⟩
        have mem : pr ∈ ps2 := (cl14.mem pr).mpr (cl.sub allE_take)
        refine ⟨encP pr, ps2.map encP, dp_RP ((rp.ts (sts s13)).ts (sts s14)), lp14.dp, shaped_P _, shaped_Ps _, _, rfl, ?_⟩
        rw [any_P, decide_eq_true mem]
        exact ⟨s13.trans s14, s14 _ _ hD13⟩
      · obtain ⟨s13, hD13⟩ := h13
        refine ⟨D, [], rfl, .inl (SqL.of hD13), rfl, ?_⟩
        show Q (.bl (decide (V.int (([] : List V).length : Nat) = V.int 0))) H13
        rw [decide_eq_true (show V.int (([] : List V).length : Nat) = V.int 0 from rfl)]
        exact k H13
end
end K9

set_option Elab.async false
set_option linter.all false
set_option maxRecDepth 100000
set_option maxHeartbeats 0
/-! The facts that the head leaves, and the end. -/
namespace K9
open PySem PySem.Spec PyProof.Rows L2
theorem facts {P : Program} {w : World} {K : PySem.W.Frag} {h : Heap} {mg : Str → Option Value} {f : Addr} (X : K.In h) (G : h.Ns mainGlobals mg) (hfa : mg ("law" : Str) = some (.ref f)) (c : He.SaysD fa fn K) :
    ∃ fd : FuncData, (∀ (s : Shared) (v : Value), BindsTo s fd ⟨[v], []⟩ [("_law_script", v)]) ∧ ∀ base : Heap, K.In base → base.Ns mainGlobals mg → FnOk P w K mg base CX0 7 f fd ["_law_script"] (spLaw K) := by
  obtain ⟨_, F0⟩ := c.def_ 0 (d := dfn "is_integer" sIsInteger) rfl
  obtain ⟨_, F1⟩ := c.def_ 1 (d := dfn "is_within" sIsWithin) rfl
  obtain ⟨_, F2⟩ := c.def_ 2 (d := dfn "are_within" sAreWithin) rfl
  obtain ⟨_, F3⟩ := c.def_ 3 (d := dfn "is_loops" sIsLoops) rfl
  obtain ⟨_, F4⟩ := c.def_ 4 (d := dfn "is_row" sIsRow) rfl
  obtain ⟨_, F5⟩ := c.def_ 5 (d := dfn "sum_of" sSumOf) rfl
  obtain ⟨_, F6⟩ := c.def_ 6 (d := dfn "check_comers" sCheckComers) rfl
  obtain ⟨_, F7⟩ := c.def_ 7 (d := dfn "entries_of" sEntriesOf) rfl
  obtain ⟨_, F8⟩ := c.def_ 8 (d := dmt "Table" "__init__" "Table.__init__" sInit) rfl
  obtain ⟨_, F9⟩ := c.def_ 9 (d := dmt "Table" "entries_at" "Table.entries_at" sEntriesAt) rfl
  obtain ⟨_, F10⟩ := c.def_ 10 (d := dfn "entries" sEntries) rfl
  obtain ⟨_, F11⟩ := c.def_ 11 (d := dfn "clash" sClash) rfl
  obtain ⟨_, F12⟩ := c.def_ 12 (d := dfn "clashes" sClashes) rfl
  obtain ⟨_, F13⟩ := c.def_ 13 (d := dfn "safe" sSafe) rfl
  obtain ⟨_, F14⟩ := c.def_ 14 (d := dfn "_law_flag" sFlag) rfl
  obtain ⟨_, F15⟩ := c.def_ 15 (d := dfn "_law_tape" sTape) rfl
  obtain ⟨_, F16⟩ := c.def_ 16 (d := dfn "_law_pick" sPick) rfl
  obtain ⟨_, F17⟩ := c.def_ 17 (d := dfn "_law_loops" sLoops) rfl
  obtain ⟨_, F18⟩ := c.def_ 18 (d := dfn "_law_row" sRow) rfl
  obtain ⟨_, F19⟩ := c.def_ 19 (d := dfn "_law_rows" sRows) rfl
  obtain ⟨_, F20⟩ := c.def_ 20 (d := dfn "_law_entries" sLEntries) rfl
  obtain ⟨_, F21⟩ := c.def_ 21 (d := dfn "_law_clash" sLClash) rfl
  obtain ⟨_, F22⟩ := c.def_ 22 (d := dfn "_law_table_clashes" sLTable) rfl
  obtain ⟨fd, F23⟩ := c.def_ 23 (d := dfn "law" sLaw) rfl
  have gl : ∀ (i : Nat) (x : Str), fa[i]? = some (.glo x) → mg x = some (.ref (He.ga K x)) := fun i x e => He.glo_ok X G (c.fact i e)
  have fr : ∀ (i : Nat) (x : Str), fa[i]? = some (.free x) → mg x = none := fun i x e => He.free_ok X G (c.fact i e)
  have nt : ∀ (i : Nat) (x : Str) (n : Int), fa[i]? = some (.int x n) → ∃ t, mg x = some (.int n t) := fun i x n e => He.int_ok X G (c.fact i e)
  have T : Txt mg := ⟨fr 29 "isinstance" rfl, fr 30 "int" rfl, fr 31 "bool" rfl, fr 32 "tuple" rfl, fr 33 "list" rfl, fr 34 "len" rfl, fr 35 "all" rfl, fr 36 "sum" rfl, fr 37 "range" rfl, fr 38 "enumerate" rfl, fr 39 "sorted" rfl,
    nt 23 "LEAST_COMERS" 2 rfl, nt 24 "MOST_COMERS" 4 rfl, nt 25 "MOST_BOUND" 60 rfl, nt 26 "MOST_LOOPS" 8 rfl, nt 27 "MOST_LENGTH" 40 rfl, nt 28 "MOST_ITEMS" 60 rfl⟩
  have L : Cls1 K (He.ga K "Table") := ⟨He.cls_ok (c.fact 40 (f := .cls "Table") rfl), He.noat_ok (c.fact 43 (f := .noat "Table" "loops") rfl), He.noat_ok (c.fact 44 (f := .noat "Table" "rows") rfl), He.noat_ok (c.fact 45 (f := .noat "Table" "bound") rfl), He.noat_ok (c.fact 46 (f := .noat "Table" "kept_entries") rfl)⟩
  have M := He.mkr_ok (c.fact 41 (f := .mkr "Table") rfl)
  have m1 := He.meth_ok (c.fact 42 (f := .meth "Table" "entries_at") rfl)
  have e := hfa.symm.trans (gl 22 "law" rfl)
  cases e
  have b := FunD.bindsA (ps := ["_law_script"]) F23 fun _ _ _ _ _ _ us hl => match us, hl with | [_], _ => rfl
  refine ⟨fd, fun s v => b s [v] rfl, fun base _ _ => ?_⟩
  have c0 : Cal P w K mg base 1 "is_integer" ["thing"] spIsInteger := ok_isInteger F0 (gl 0 _ rfl) T
  have c1 : Cal P w K mg base 2 "is_within" ["thing", "least", "most"] spIsWithin := ok_isWithin F1 (gl 1 _ rfl) T c0
  have c2 : Cal P w K mg base 3 "are_within" ["thing", "most", "least", "greatest"] spAreWithin := ok_areWithin F2 (gl 2 _ rfl) T c1
  have c3 : Cal P w K mg base 4 "is_loops" ["thing"] spIsLoops := ok_isLoops F3 (gl 3 _ rfl) T c2
  have c4 : Cal P w K mg base 4 "is_row" ["loops", "thing"] spIsRow := ok_isRow F4 (gl 4 _ rfl) T c2
  have c5 : Cal P w K mg base 1 "sum_of" ["loops", "row"] spSumOf := ok_sumOf F5 (gl 5 _ rfl) T
  have c6 : Cal P w K mg base 3 "check_comers" ["thing"] spCheckComers := ok_checkComers F6 (gl 6 _ rfl) T c1
  have c7 : Cal P w K mg base 2 "entries_of" ["loops", "row"] spEntriesOf := ok_entriesOf F7 (gl 7 _ rfl) T c5
  have G8 : FnOk P w K mg base CX0 5 _ _ ["self", "loops", "rows"] (spInit (He.ga K "Table")) := ok_init F8 T L c3 c4 c5 c7
  have b8 := FunD.bindsN (ps := ["self", "loops", "rows"]) F8 fun _ _ _ _ _ _ us hl => match us, hl with | [_, _, _], _ => rfl
  have G9 : FnOk P w K mg base CX0 1 _ _ ["self", "wait"] (spEntriesAt (He.ga K "Table")) := ok_entriesAt F9 L
  have b9 := FunD.bindsN (ps := ["self", "wait"]) F9 fun _ _ _ _ _ _ us hl => match us, hl with | [_, _], _ => rfl
  have c10 : Cal P w K mg base 2 "entries" ["table"] (spEntries (He.ga K "Table")) := ok_entries F10 (gl 9 _ rfl) T L G9 b9 m1
  have c11 : Cal P w K mg base 1 "clash" ["comers", "one", "other"] spClash := ok_clash F11 (gl 10 _ rfl)
  have c12 : Cal P w K mg base 4 "clashes" ["table", "comers"] (spClashes (He.ga K "Table")) := ok_clashes F12 (gl 11 _ rfl) T c6 c10 c11
  have c13 : Cal P w K mg base 5 "safe" ["table", "comers"] (spSafe (He.ga K "Table")) := ok_safe F13 (gl 12 _ rfl) T c12
  have c14 : Cal P w K mg base 1 "_law_flag" ["_law_told", "_law_due"] spFlag := ok_flag F14 (gl 13 _ rfl) T
  have c15 : Cal P w K mg base 1 "_law_tape" ["_law_script"] (spTape K) := ok_tape F15 (gl 14 _ rfl) T
  have c16 : Cal P w K mg base 1 "_law_pick" ["_law_tape_here", "_law_size"] spPick := ok_pick F16 (gl 15 _ rfl) T
  have c17 : Cal P w K mg base 2 "_law_loops" ["_law_tape_here", "_law_most", "_law_longest"] spLoops := ok_loops F17 (gl 16 _ rfl) T c16
  have c18 : Cal P w K mg base 2 "_law_row" ["_law_tape_here", "_law_loops_here", "_law_wait"] spRow := ok_row F18 (gl 17 _ rfl) T c16
  have c19 : Cal P w K mg base 3 "_law_rows" ["_law_tape_here", "_law_loops_here", "_law_bound"] spRows := ok_rows F19 (gl 18 _ rfl) T c18
  have c20 : Cal P w K mg base 1 "_law_entries" ["_law_loops_here", "_law_row_here"] spLEntries := ok_lEntries F20 (gl 19 _ rfl) T
  have c21 : Cal P w K mg base 1 "_law_clash" ["_law_comers", "_law_one", "_law_other"] spLClash := ok_lClash F21 (gl 20 _ rfl)
  have c22 : Cal P w K mg base 2 "_law_table_clashes" ["_law_loops_here", "_law_rows_here", "_law_comers"] spLTable := ok_lTable F22 (gl 21 _ rfl) T c20 c21
  exact ok_law F23 T M G8 b8 (gl 8 _ rfl) c15 c17 c19 c16 c22 c12 c13 c14
end K9
open PySem PySem.W PySem.Calls PyProof.Rows
theorem PySem.Challenge.cw_loopstore_k09_whole_clashes_by_own_look_holds : PySem.Challenge.rw_loopstore_k09_whole_clashes_by_own_look.Holds := by
  w_on; o_law
  refine HandSHeadRun.head_any (r := K9.R) (q := view K9.R.prog [37]) (H := K9.hk) (ob := K9.ob) (M := 20000) (loose := K9.loose) (d := HandSHeadRun.topDef K9.R.prog 37) (kwd := []) K9.ob_eq
    (by kernel_rfl) (fun s => by kernel_rfl) K9.run (by kernel_rfl) (by kernel_rfl) (by kernel_rfl) (by rfl) (by first | assumption | decide +kernel) (by decide +kernel) ⟨rfl, rfl, rfl, rfl, rfl, by decide +kernel⟩ ?hw ?hc
  case hw => w_witness2
  case hc =>
    refine L2.walk_ofE (l := PySem.Challenge.rw_loopstore_k09_whole_clashes_by_own_look) (n := 63) (k := 7) (x := "_law_script") (CX := L2.CX0) rfl (by decide) (by kernel_rfl) ⟨rfl, by decide, by decide⟩ ?F (fun _ _ _ _ z => z)
    intro w mg fa h Y G hmg0
    obtain ⟨K, KX, c⟩ := Y
    have hmg : mg ("law" : PySem.Str) = some (.ref fa) := by
      have e : (HandSHeadRun.topDef K9.R.prog 37).name = ("law" : PySem.Str) := by kernel_rfl
      rw [← e]
      exact hmg0
    obtain ⟨fd, hb, hF⟩ := K9.facts (P := (PySem.Challenge.rw_loopstore_k09_whole_clashes_by_own_look).prog) (w := w) KX G hmg c
    exact ⟨K, fd, K9.spLaw K, KX, hb, fun H a ns hl _ hS => ⟨a, ns, rfl, hS, fun _ => rfl⟩, hF⟩
#print axioms PySem.Challenge.cw_loopstore_k09_whole_clashes_by_own_look_holds
