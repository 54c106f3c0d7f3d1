import PyProof.Rows.All
import Wide.All
import OpenK.AllK
import Wide.FinOn
import HandS.ForMost
import HandS.ForExc
import HandS.IsInst
import HandS.TupAny
import HandS.DictComp
import HandS.ExcField
import PySem.Challenge.RW_graftbook_k45_whole_free_deeds
import KE.GoesEnum
import KE.KExcSuper
import HandS.ExcOwn
import HandS.WordsExc
import KE.RegKSuper
set_option linter.all false
/-! The mathematics: forests of marked spots, the law's rows, deeds on both. No program here. -/
namespace Gf
/-- a forest: the first tree's mark, word, children; the other trees -/
inductive Fo (W : Type) where
  | nil
  | cons (m : Int) (w : W) (k r : Fo W)
/-- a row of the law: mark, word, parent -/
structure Ro (W : Type) where
  m : Int
  w : W
  p : Int
/-- an entry: mark, word, children, parent, the mark to the left -/
structure En (W : Type) where
  m : Int
  w : W
  k : Fo W
  p : Int
  b : Int
inductive De (W : Type) where
  | add (m : Int) (w : W) (p b : Int)
  | drop (m : Int)
  | move (m p b : Int)
  | word (m : Int) (w : W)
section
variable {W : Type}
def marks : Fo W → List Int
  | .nil => []
  | .cons m _ k r => m :: (marks k ++ marks r)
def tmarks : Fo W → List Int
  | .nil => []
  | .cons m _ _ r => m :: tmarks r
def depth : Fo W → Nat
  | .nil => 0
  | .cons _ _ k r => max (depth k + 1) (depth r)
def ents : Fo W → Int → Int → List (En W)
  | .nil, _, _ => []
  | .cons m w k r, p, b => ⟨m, w, k, p, b⟩ :: (ents k m 0 ++ ents r p m)
def kids (fl : List (Ro W)) (q : Int) : List (Ro W) := fl.filter fun x => decide (x.p = q)
def MR (fl : List (Ro W)) : Fo W → List (Ro W) → Prop
  | .nil, rows => rows = []
  | .cons m w k r, rows => ∃ x rest, rows = x :: rest ∧ x.m = m ∧ x.w = w ∧ MR fl k (kids fl m) ∧ MR fl r rest
structure Rep (fl : List (Ro W)) (f : Fo W) : Prop where
  mt : MR fl f (kids fl 0)
  nd : (marks f).Nodup
  pos : ∀ m ∈ marks f, 0 < m
  pm : (fl.map (·.m)).Perm (marks f)
  pc : ∀ x ∈ fl, x.p = 0 ∨ x.p ∈ fl.map (·.m)
def findE (f : Fo W) (q : Int) : Option (En W) := (ents f 0 0).find? fun e => decide (e.m = q)
def parF (f : Fo W) (q : Int) : Int := match findE f q with
  | some e => e.p
  | none => 0
def rowAt (f : Fo W) (q : Int) : Fo W := if q = 0 then f else match findE f q with
  | some e => e.k
  | none => .nil
def insN : Fo W → Nat → Int → W → Fo W → Fo W
  | g, 0, m, w, k => .cons m w k g
  | .nil, _ + 1, m, w, k => .cons m w k .nil
  | .cons a b c r, n + 1, m, w, k => .cons a b c (insN r n m w k)
def posL : List Int → Int → Nat
  | [], _ => 0
  | x :: l, b => if posL l b = 0 then (if x = b then 1 else 0) else posL l b + 1
def wr : Fo W → Int → Fo W → Fo W
  | .nil, _, _ => .nil
  | .cons m w k r, q, nk => if m = q then .cons m w nk (wr r q nk) else .cons m w (wr k q nk) (wr r q nk)
def withRow (f : Fo W) (q : Int) (nk : Fo W) : Fo W := if q = 0 then nk else wr f q nk
def putIn (f : Fo W) (m : Int) (w : W) (k : Fo W) (q b : Int) : Fo W :=
  withRow f q (insN (rowAt f q) (posL (tmarks (rowAt f q)) b) m w k)
def taken : Fo W → Int → Fo W
  | .nil, _ => .nil
  | .cons x w k r, m => if x = m then taken r m else .cons x w (taken k m) (taken r m)
def worded : Fo W → Int → W → Fo W
  | .nil, _, _ => .nil
  | .cons x w k r, m, n => .cons x (if x = m then n else w) (worded k m n) (worded r m n)
def behind (f : Fo W) : De W → Fo W
  | .add m w p b => putIn f m w .nil p b
  | .drop m => taken f m
  | .move m p b => match findE f m with
    | some e => putIn (taken f m) e.m e.w e.k p b
    | none => f
  | .word m w => worded f m w
def insAt {α : Type} (l : List α) (n : Nat) (x : α) : List α := l.take n ++ x :: l.drop n
def putL (fl : List (Ro W)) (x : Ro W) (b : Int) : List (Ro W) := insAt fl (posL (fl.map (·.m)) b) x
def less (fl : List (Ro W)) (m : Int) : List (Ro W) := fl.filter fun x => decide (x.m ≠ m)
def wordL (fl : List (Ro W)) (m : Int) (w : W) : W := match fl.find? (fun x => decide (x.m = m)) with
  | some x => x.w
  | none => w
def done (fl : List (Ro W)) : De W → List (Ro W)
  | .add m w p b => putL (less fl m) ⟨m, w, p⟩ b
  | .drop m => less fl m
  | .move m p b => match fl.find? (fun x => decide (x.m = m)) with
    | some x => putL (less fl m) ⟨m, x.w, p⟩ b
    | none => fl
  | .word m w => fl.map fun x => ⟨x.m, if x.m = m then w else x.w, x.p⟩
/-- the way up from x by the parents -/
def Chn (par : Int → Int) : Int → List Int → Prop
  | x, [] => x = 0
  | x, y :: l => y = x ∧ x ≠ 0 ∧ Chn par (par x) l
def parL (fl : List (Ro W)) (q : Int) : Int := match fl.find? (fun x => decide (x.m = q)) with
  | some x => x.p
  | none => 0
def Inside (par : Int → Int) (m p : Int) : Prop := ∃ l, Chn par p l ∧ m ∈ l
def BehP (f : Fo W) (m p b : Int) : Prop := b = 0 ∨ (b ≠ m ∧ ∃ e ∈ ents f 0 0, e.m = b ∧ e.p = p)
def BehL (fl : List (Ro W)) (m p b : Int) : Prop := b = 0 ∨ ∃ x ∈ fl, x.p = p ∧ x.m ≠ m ∧ x.m = b
def POk (f : Fo W) : De W → Prop
  | .add m _ p b => m ∉ marks f ∧ (p = 0 ∨ p ∈ marks f) ∧ BehP f m p b
  | .drop m => m ∈ marks f ∧ rowAt f m = .nil
  | .move m p b => m ∈ marks f ∧ (p = 0 ∨ p ∈ marks f) ∧ ¬ Inside (parF f) m p ∧ BehP f m p b
  | .word m _ => m ∈ marks f
def LOk (fl : List (Ro W)) : De W → Prop
  | .add m _ p b => m ∉ fl.map (·.m) ∧ (p = 0 ∨ p ∈ fl.map (·.m)) ∧ BehL fl m p b
  | .drop m => m ∈ fl.map (·.m) ∧ m ∉ fl.map (·.p)
  | .move m p b => m ∈ fl.map (·.m) ∧ (p = 0 ∨ p ∈ fl.map (·.m)) ∧ ¬ Inside (parL fl) m p ∧ BehL fl m p b
  | .word m _ => m ∈ fl.map (·.m)
def deM : De W → Int
  | .add m _ _ _ => m
  | .drop m => m
  | .move m _ _ => m
  | .word m _ => m
/-! ### entries -/
theorem ents_marks : ∀ (f : Fo W) (p b : Int), (ents f p b).map (·.m) = marks f
  | .nil, _, _ => rfl
  | .cons m w k r, p, b => by
    show m :: ((ents k m 0 ++ ents r p m).map (·.m)) = m :: (marks k ++ marks r)
    rw [List.map_append, ents_marks k, ents_marks r]
theorem mem_marks {f : Fo W} {q p b : Int} : q ∈ marks f ↔ ∃ e ∈ ents f p b, e.m = q := by
  rw [← ents_marks f p b, List.mem_map]
theorem depth_le : ∀ f : Fo W, depth f ≤ (marks f).length
  | .nil => Nat.le_refl _
  | .cons m w k r => by
    have h1 := depth_le k
    have h2 := depth_le r
    show max (depth k + 1) (depth r) ≤ (m :: (marks k ++ marks r)).length
    rw [List.length_cons, List.length_append]
    omega
theorem ents_sub : ∀ (f : Fo W) (p b : Int) (e : En W), e ∈ ents f p b → ∀ x ∈ ents e.k e.m 0, x ∈ ents f p b
  | .nil, _, _, _, h => by simp [ents] at h
  | .cons m w k r, p, b, e, h => by
    intro x hx
    have h' : e = ⟨m, w, k, p, b⟩ ∨ e ∈ ents k m 0 ∨ e ∈ ents r p m := by
      simpa [ents] using h
    show x ∈ (⟨m, w, k, p, b⟩ : En W) :: (ents k m 0 ++ ents r p m)
    refine List.mem_cons_of_mem _ (List.mem_append.mpr ?_)
    rcases h' with h' | h' | h'
    · subst h'
      exact .inl hx
    · exact .inl (ents_sub k m 0 e h' x hx)
    · exact .inr (ents_sub r p m e h' x hx)
theorem kid_marks {f : Fo W} {p b : Int} {e : En W} (h : e ∈ ents f p b) : ∀ x ∈ marks e.k, x ∈ marks f := fun x hx => by
  obtain ⟨y, hy, rfl⟩ := (mem_marks (p := e.m) (b := 0)).mp hx
  exact (mem_marks (p := p) (b := b)).mpr ⟨y, ents_sub f p b e h y hy, rfl⟩
theorem nodup_ent {f : Fo W} (hn : (marks f).Nodup) {p b : Int} {e e' : En W} (h : e ∈ ents f p b) (h' : e' ∈ ents f p b) (q : e.m = e'.m) : e = e' := by
  rw [← ents_marks f p b] at hn
  generalize ents f p b = l at hn h h'
  induction l with
  | nil => cases h
  | cons a l ih =>
    rw [List.map_cons, List.nodup_cons] at hn
    rcases List.mem_cons.mp h with h1 | h1
    · rcases List.mem_cons.mp h' with h2 | h2
      · rw [h1, h2]
      · exact absurd (List.mem_map.mpr ⟨e', h2, by rw [← q, h1]⟩) hn.1
    · rcases List.mem_cons.mp h' with h2 | h2
      · exact absurd (List.mem_map.mpr ⟨e, h1, by rw [q, h2]⟩) hn.1
      · exact ih hn.2 h1 h2
theorem findE_some {f : Fo W} {q : Int} {e : En W} (h : findE f q = some e) : e ∈ ents f 0 0 ∧ e.m = q := by
  unfold findE at h
  have z := List.find?_some h
  exact ⟨List.mem_of_find?_eq_some h, of_decide_eq_true z⟩
theorem findE_of {f : Fo W} (hn : (marks f).Nodup) {e : En W} (h : e ∈ ents f 0 0) : findE f e.m = some e := by
  cases c : findE f e.m with
  | none =>
    unfold findE at c
    have z := List.find?_eq_none.mp c e h
    exact absurd (decide_eq_true rfl) z
  | some e' =>
    obtain ⟨h1, h2⟩ := findE_some c
    rw [nodup_ent hn h1 h h2]
theorem findE_mem {f : Fo W} {q : Int} (h : q ∈ marks f) : ∃ e, findE f q = some e ∧ e ∈ ents f 0 0 ∧ e.m = q := by
  cases c : findE f q with
  | none =>
    obtain ⟨e, h1, h2⟩ := (mem_marks (p := 0) (b := 0)).mp h
    unfold findE at c
    have z := List.find?_eq_none.mp c e h1
    exact absurd (decide_eq_true h2) z
  | some e => exact ⟨e, rfl, findE_some c⟩
theorem parF_of {f : Fo W} (hn : (marks f).Nodup) {e : En W} (h : e ∈ ents f 0 0) : parF f e.m = e.p := by
  unfold parF
  rw [findE_of hn h]
theorem rowAt_of {f : Fo W} (hn : (marks f).Nodup) {e : En W} (h : e ∈ ents f 0 0) (h0 : e.m ≠ 0) : rowAt f e.m = e.k := by
  unfold rowAt
  rw [if_neg h0, findE_of hn h]
/-! ### the rows and the forest -/
theorem kids_mem {fl : List (Ro W)} {q : Int} {x : Ro W} : x ∈ kids fl q ↔ x ∈ fl ∧ x.p = q := by
  unfold kids
  rw [List.mem_filter]
  simp
theorem mr_ent {fl : List (Ro W)} : ∀ (g : Fo W) (rows : List (Ro W)) (q b : Int), MR fl g rows → (∀ x ∈ rows, x ∈ fl ∧ x.p = q) →
    ∀ e ∈ ents g q b, (⟨e.m, e.w, e.p⟩ : Ro W) ∈ fl ∧ MR fl e.k (kids fl e.m)
  | .nil, _, _, _, _, _, e, h => by simp [ents] at h
  | .cons m w k r, rows, q, b, hm, hr, e, h => by
    obtain ⟨x, rest, rfl, rfl, rfl, h3, h4⟩ := hm
    have h' : e = ⟨x.m, x.w, k, q, b⟩ ∨ e ∈ ents k x.m 0 ∨ e ∈ ents r q x.m := by
      simpa [ents] using h
    rcases h' with h' | h' | h'
    · subst h'
      obtain ⟨i1, i2⟩ := hr x List.mem_cons_self
      refine ⟨?_, h3⟩
      show (⟨x.m, x.w, q⟩ : Ro W) ∈ fl
      rw [← i2]
      exact i1
    · exact mr_ent k _ x.m 0 h3 (fun y hy => kids_mem.mp hy) e h'
    · exact mr_ent r rest q x.m h4 (fun y hy => hr y (List.mem_cons_of_mem _ hy)) e h'
theorem nodup_row : ∀ {fl : List (Ro W)}, (fl.map (·.m)).Nodup → ∀ {x y : Ro W}, x ∈ fl → y ∈ fl → x.m = y.m → x = y
  | [], _, _, _, h, _, _ => by cases h
  | a :: l, hn, x, y, h, h', q => by
    rw [List.map_cons, List.nodup_cons] at hn
    rcases List.mem_cons.mp h with h1 | h1
    · rcases List.mem_cons.mp h' with h2 | h2
      · rw [h1, h2]
      · exact absurd (List.mem_map.mpr ⟨y, h2, by rw [← q, h1]⟩) hn.1
    · rcases List.mem_cons.mp h' with h2 | h2
      · exact absurd (List.mem_map.mpr ⟨x, h1, by rw [q, h2]⟩) hn.1
      · exact nodup_row hn.2 h1 h2 q
section
variable {fl : List (Ro W)} {f : Fo W}
theorem Rep.nl (R : Rep fl f) : (fl.map (·.m)).Nodup := R.pm.nodup_iff.mpr R.nd
theorem Rep.mm (R : Rep fl f) {q : Int} : q ∈ fl.map (·.m) ↔ q ∈ marks f := R.pm.mem_iff
theorem Rep.len (R : Rep fl f) : fl.length = (marks f).length := by
  have h := R.pm.length_eq
  rw [List.length_map] at h
  exact h
theorem Rep.ent (R : Rep fl f) {e : En W} (h : e ∈ ents f 0 0) : (⟨e.m, e.w, e.p⟩ : Ro W) ∈ fl ∧ MR fl e.k (kids fl e.m) :=
  mr_ent f _ 0 0 R.mt (fun _ hx => kids_mem.mp hx) e h
theorem Rep.row (R : Rep fl f) {x : Ro W} (h : x ∈ fl) : ∃ e ∈ ents f 0 0, e.m = x.m ∧ e.w = x.w ∧ e.p = x.p := by
  have hm : x.m ∈ marks f := R.mm.mp (List.mem_map.mpr ⟨x, h, rfl⟩)
  obtain ⟨e, he, q⟩ := (mem_marks (p := 0) (b := 0)).mp hm
  have z := nodup_row R.nl (R.ent he).1 h q
  exact ⟨e, he, q, by rw [← z], by rw [← z]⟩
theorem Rep.e0 (R : Rep fl f) {e : En W} (h : e ∈ ents f 0 0) : e.m ≠ 0 := by
  have := R.pos e.m (mem_marks.mpr ⟨e, h, rfl⟩)
  omega
theorem findL_of (hn : (fl.map (·.m)).Nodup) {x : Ro W} (h : x ∈ fl) : fl.find? (fun y => decide (y.m = x.m)) = some x := by
  cases c : fl.find? (fun y => decide (y.m = x.m)) with
  | none =>
    have z := List.find?_eq_none.mp c x h
    exact absurd (decide_eq_true rfl) z
  | some y =>
    have z := List.find?_some c
    rw [nodup_row hn (List.mem_of_find?_eq_some c) h (of_decide_eq_true z)]
theorem Rep.par (R : Rep fl f) (q : Int) : parL fl q = parF f q := by
  by_cases h : q ∈ marks f
  · obtain ⟨e, h1, h2, rfl⟩ := findE_mem h
    have hx := (R.ent h2).1
    unfold parL
    rw [parF_of R.nd h2]
    have z := findL_of R.nl hx
    have z' : fl.find? (fun x => decide (x.m = e.m)) = some ⟨e.m, e.w, e.p⟩ := z
    rw [z']
  · unfold parL parF
    have h1 : fl.find? (fun x => decide (x.m = q)) = none := List.find?_eq_none.mpr fun x hx => by
      have : x.m ≠ q := fun z => h (R.mm.mp (List.mem_map.mpr ⟨x, hx, z⟩))
      simpa using this
    have h2 : findE f q = none := List.find?_eq_none.mpr fun e he => by
      have : e.m ≠ q := fun z => h (mem_marks.mpr ⟨e, he, z⟩)
      simpa using this
    rw [h1, h2]
theorem mr_nil {g : Fo W} {rows : List (Ro W)} (h : MR fl g rows) : g = .nil ↔ rows = [] := by
  cases g with
  | nil => exact ⟨fun _ => h, fun _ => rfl⟩
  | cons m w k r =>
    obtain ⟨x, rest, rfl, _⟩ := h
    exact ⟨fun z => (nomatch z), fun z => (nomatch z)⟩
theorem Rep.row_kids (R : Rep fl f) {q : Int} (h : q = 0 ∨ q ∈ marks f) : MR fl (rowAt f q) (kids fl q) := by
  rcases h with rfl | h
  · unfold rowAt
    rw [if_pos rfl]
    exact R.mt
  · obtain ⟨e, h1, h2, rfl⟩ := findE_mem h
    rw [rowAt_of R.nd h2 (R.e0 h2)]
    exact (R.ent h2).2
theorem Rep.beh (R : Rep fl f) (m p b : Int) : BehL fl m p b ↔ BehP f m p b := by
  constructor
  · rintro (h | ⟨x, hx, h1, h2, h3⟩)
    · exact .inl h
    · obtain ⟨e, he, q1, q2, q3⟩ := R.row hx
      exact .inr ⟨by rw [← h3]; exact h2, e, he, by rw [q1, h3], by rw [q3, h1]⟩
  · rintro (h | ⟨h1, e, he, q1, q2⟩)
    · exact .inl h
    · exact .inr ⟨_, (R.ent he).1, q2, by show e.m ≠ m; rw [q1]; exact h1, q1⟩
theorem Rep.ok (R : Rep fl f) (d : De W) : LOk fl d ↔ POk f d := by
  have hp : parL fl = parF f := funext R.par
  cases d with
  | add m w p b =>
    show (_ ∧ _ ∧ _) ↔ (_ ∧ _ ∧ _)
    rw [R.mm, R.mm, R.beh]
  | word m w => exact R.mm
  | move m p b =>
    show (_ ∧ _ ∧ _ ∧ _) ↔ (_ ∧ _ ∧ _ ∧ _)
    rw [R.mm, R.mm, R.beh, hp]
  | drop m =>
    show (_ ∧ _) ↔ (_ ∧ _)
    rw [R.mm]
    refine and_congr_right fun h => ?_
    rw [mr_nil (R.row_kids (.inr h))]
    constructor
    · intro z
      refine List.eq_nil_iff_forall_not_mem.mpr fun x hx => z ?_
      obtain ⟨h1, h2⟩ := kids_mem.mp hx
      exact List.mem_map.mpr ⟨x, h1, h2⟩
    · intro z hm
      obtain ⟨x, h1, h2⟩ := List.mem_map.mp hm
      have hx : x ∈ kids fl m := kids_mem.mpr ⟨h1, h2⟩
      rw [z] at hx
      cases hx
end
/-! ### the way up -/
theorem chn_uniq {par : Int → Int} : ∀ {l l' : List Int} {x : Int}, Chn par x l → Chn par x l' → l = l'
  | [], [], _, _, _ => rfl
  | [], _ :: _, _, h, h' => absurd h h'.2.1
  | _ :: _, [], _, h, h' => absurd h' h.2.1
  | _ :: l, _ :: l', x, h, h' => by
    rw [h.1, h'.1, chn_uniq h.2.2 h'.2.2]
theorem chn_ex {par : Int → Int} : ∀ (g : Fo W) (q b : Int) (lq : List Int), (∀ e ∈ ents g q b, par e.m = e.p ∧ e.m ≠ 0) → Chn par q lq →
    ∀ x ∈ marks g, ∃ l1, Chn par x (l1 ++ lq) ∧ l1.length ≤ depth g
  | .nil, _, _, _, _, _, x, h => by cases h
  | .cons m w k r, q, b, lq, he, hq, x, h => by
    have h0 := he ⟨m, w, k, q, b⟩ List.mem_cons_self
    have hm : Chn par m (m :: lq) := ⟨rfl, h0.2, by rw [show par m = q from h0.1]; exact hq⟩
    have h' : x = m ∨ x ∈ marks k ∨ x ∈ marks r := by simpa [marks] using h
    rcases h' with h' | h' | h'
    · subst h'
      refine ⟨[x], hm, ?_⟩
      show 1 ≤ max (depth k + 1) (depth r)
      omega
    · obtain ⟨l1, c, hl⟩ := chn_ex k m 0 (m :: lq) (fun e h => he e (List.mem_cons_of_mem _ (List.mem_append.mpr (.inl h)))) hm x h'
      refine ⟨l1 ++ [m], by rw [List.append_assoc]; exact c, ?_⟩
      show (l1 ++ [m]).length ≤ max (depth k + 1) (depth r)
      rw [List.length_append, List.length_singleton]
      omega
    · obtain ⟨l1, c, hl⟩ := chn_ex r q m lq (fun e h => he e (List.mem_cons_of_mem _ (List.mem_append.mpr (.inr h)))) hq x h'
      refine ⟨l1, c, ?_⟩
      show l1.length ≤ max (depth k + 1) (depth r)
      omega
theorem chain_of {f : Fo W} (hn : (marks f).Nodup) (hp : ∀ m ∈ marks f, 0 < m) {p : Int} (h : p = 0 ∨ p ∈ marks f) : ∃ l, Chn (parF f) p l ∧ l.length ≤ depth f := by
  rcases h with rfl | h
  · exact ⟨[], rfl, Nat.zero_le _⟩
  · obtain ⟨l1, c, hl⟩ := chn_ex f 0 0 [] (fun e he => ⟨parF_of hn he, by have := hp e.m (mem_marks.mpr ⟨e, he, rfl⟩); omega⟩) rfl p h
    exact ⟨l1, by rw [List.append_nil] at c; exact c, hl⟩
theorem not_below {f : Fo W} (hn : (marks f).Nodup) (hp : ∀ m ∈ marks f, 0 < m) {e : En W} (he : e ∈ ents f 0 0) {p : Int} (hi : ¬ Inside (parF f) e.m p) : p ≠ e.m ∧ p ∉ marks e.k := by
  have pe : ∀ x ∈ ents f 0 0, parF f x.m = x.p ∧ x.m ≠ 0 := fun x hx => ⟨parF_of hn hx, by have := hp x.m (mem_marks.mpr ⟨x, hx, rfl⟩); omega⟩
  have hm : e.m ∈ marks f := mem_marks.mpr ⟨e, he, rfl⟩
  obtain ⟨l, c, _⟩ := chain_of hn hp (.inr hm)
  have hml : e.m ∈ l := by
    cases l with
    | nil => exact absurd c (pe e he).2
    | cons y l' =>
      rw [c.1]
      exact List.mem_cons_self
  refine ⟨fun z => hi ⟨l, by rw [z]; exact c, hml⟩, fun z => hi ?_⟩
  obtain ⟨l1, c1, _⟩ := chn_ex e.k e.m 0 l (fun x hx => pe x (ents_sub f 0 0 e he x hx)) c p z
  exact ⟨_, c1, List.mem_append.mpr (.inr hml)⟩
/-! ### a row put in -/
theorem posL_none : ∀ {l : List Int} {b : Int}, b ∉ l → posL l b = 0
  | [], _, _ => rfl
  | x :: l, b, h => by
    have h1 : b ∉ l := fun z => h (List.mem_cons_of_mem _ z)
    have h2 : ¬ x = b := fun z => h (by rw [z]; exact List.mem_cons_self)
    show (if posL l b = 0 then (if x = b then 1 else 0) else posL l b + 1) = 0
    rw [if_pos (posL_none h1), if_neg h2]
theorem posL_split : ∀ {pre post : List Int} {b : Int}, b ∉ post → posL (pre ++ b :: post) b = pre.length + 1
  | [], post, b, h => by
    show (if posL post b = 0 then (if b = b then 1 else 0) else posL post b + 1) = 1
    rw [if_pos (posL_none h), if_pos rfl]
  | x :: pre, post, b, h => by
    show (if posL (pre ++ b :: post) b = 0 then (if x = b then 1 else 0) else posL (pre ++ b :: post) b + 1) = pre.length + 1 + 1
    rw [posL_split h, if_neg (by omega)]
theorem posL_snoc (x b : Int) : ∀ l : List Int, posL (l ++ [x]) b = if x = b then l.length + 1 else posL l b
  | [] => rfl
  | y :: l => by
    show (if posL (l ++ [x]) b = 0 then (if y = b then 1 else 0) else posL (l ++ [x]) b + 1) = _
    rw [posL_snoc x b l]
    by_cases h : x = b
    · rw [if_pos h, if_neg (by omega), if_pos h]
      rfl
    · rw [if_neg h, if_neg h]
      rfl
theorem posL_le : ∀ (l : List Int) (b : Int), posL l b ≤ l.length
  | [], _ => Nat.le_refl _
  | x :: l, b => by
    have h := posL_le l b
    show (if posL l b = 0 then (if x = b then 1 else 0) else posL l b + 1) ≤ l.length + 1
    split
    · split <;> omega
    · omega
theorem insAt_perm {α : Type} (l : List α) (n : Nat) (x : α) : (insAt l n x).Perm (x :: l) := by
  have h : (l.take n ++ x :: l.drop n).Perm (x :: (l.take n ++ l.drop n)) := List.perm_middle
  rw [List.take_append_drop] at h
  exact h
theorem kids_put {fl : List (Ro W)} (hn : (fl.map (·.m)).Nodup) {x : Ro W} {b : Int} (hb : b ∉ fl.map (·.m) ∨ ∃ y ∈ fl, y.m = b ∧ y.p = x.p) (q : Int) :
    kids (putL fl x b) q = if x.p = q then insAt (kids fl q) (posL ((kids fl q).map (·.m)) b) x else kids fl q := by
  rcases hb with hb | ⟨y, hy, rfl, hp⟩
  · have h1 : putL fl x b = x :: fl := by
      unfold putL
      rw [posL_none hb]
      rfl
    have h2 : b ∉ (kids fl q).map (·.m) := fun z => by
      obtain ⟨y, hy, e⟩ := List.mem_map.mp z
      exact hb (List.mem_map.mpr ⟨y, (kids_mem.mp hy).1, e⟩)
    rw [h1, posL_none h2]
    show (x :: fl).filter _ = _
    by_cases h : x.p = q
    · rw [List.filter_cons, if_pos (decide_eq_true h), if_pos h]
      rfl
    · rw [List.filter_cons, if_neg (by simpa using h), if_neg h]
      rfl
  · obtain ⟨pre, post, rfl⟩ := List.append_of_mem hy
    have hpost : y.m ∉ post.map (·.m) := fun z => by
      rw [List.map_append, List.map_cons] at hn
      have := (List.nodup_append.mp hn).2.1
      exact (List.nodup_cons.mp this).1 z
    have h1 : putL (pre ++ y :: post) x y.m = pre ++ y :: x :: post := by
      unfold putL insAt
      rw [List.map_append, List.map_cons, posL_split hpost, List.length_map]
      have e1 : (pre ++ y :: post).take (pre.length + 1) = pre ++ [y] := by
        rw [List.take_append, List.take_of_length_le (by omega)]
        simp
      have e2 : (pre ++ y :: post).drop (pre.length + 1) = post := by
        rw [List.drop_append]
        simp
      rw [e1, e2, List.append_assoc]
      rfl
    rw [h1]
    by_cases h : x.p = q
    · rw [if_pos h]
      have hq : y.p = q := hp.trans h
      have k0 : kids (pre ++ y :: post) q = kids pre q ++ y :: kids post q := by
        unfold kids
        rw [List.filter_append, List.filter_cons, if_pos (decide_eq_true hq)]
      have hk : y.m ∉ (kids post q).map (·.m) := fun z => by
        obtain ⟨v, hv, e⟩ := List.mem_map.mp z
        exact hpost (List.mem_map.mpr ⟨v, (kids_mem.mp hv).1, e⟩)
      rw [k0, List.map_append, List.map_cons, posL_split hk, List.length_map]
      have e1 : (kids pre q ++ y :: kids post q).take ((kids pre q).length + 1) = kids pre q ++ [y] := by
        rw [List.take_append, List.take_of_length_le (by omega)]
        simp
      have e2 : (kids pre q ++ y :: kids post q).drop ((kids pre q).length + 1) = kids post q := by
        rw [List.drop_append]
        simp
      unfold insAt
      rw [e1, e2]
      unfold kids
      rw [List.filter_append, List.filter_cons, if_pos (decide_eq_true hq), List.filter_cons, if_pos (decide_eq_true h), List.append_assoc]
      rfl
    · rw [if_neg h]
      have hq : ¬ y.p = q := fun z => h (hp ▸ z)
      unfold kids
      rw [List.filter_append, List.filter_append, List.filter_cons, if_neg (by simpa using hq), List.filter_cons, if_neg (by simpa using h), List.filter_cons, if_neg (by simpa using hq)]
theorem mr_congr {fl fl' : List (Ro W)} : ∀ (g : Fo W) (rows : List (Ro W)), MR fl g rows → (∀ q ∈ marks g, kids fl' q = kids fl q) → MR fl' g rows
  | .nil, _, h, _ => h
  | .cons m w k r, rows, ⟨x, rest, e, e1, e2, h3, h4⟩, hk => by
    refine ⟨x, rest, e, e1, e2, ?_, mr_congr r rest h4 fun q hq => hk q (List.mem_cons_of_mem _ (List.mem_append.mpr (.inr hq)))⟩
    rw [hk m List.mem_cons_self]
    exact mr_congr k _ h3 fun q hq => hk q (List.mem_cons_of_mem _ (List.mem_append.mpr (.inl hq)))
theorem mr_ins {fl : List (Ro W)} {x : Ro W} {k0 : Fo W} (hk : MR fl k0 (kids fl x.m)) : ∀ (g : Fo W) (n : Nat) (rows : List (Ro W)), MR fl g rows → MR fl (insN g n x.m x.w k0) (insAt rows n x)
  | .nil, 0, rows, h => ⟨x, rows, rfl, rfl, rfl, hk, h⟩
  | .cons m w k r, 0, rows, h => ⟨x, rows, rfl, rfl, rfl, hk, h⟩
  | .nil, n + 1, rows, h => by
    have e : rows = [] := h
    subst e
    exact ⟨x, [], rfl, rfl, rfl, hk, rfl⟩
  | .cons m w k r, n + 1, rows, ⟨y, rest, e, e1, e2, h3, h4⟩ => by
    subst e
    exact ⟨y, insAt rest n x, rfl, e1, e2, h3, mr_ins hk r n rest h4⟩
theorem mr_tm {fl : List (Ro W)} : ∀ (g : Fo W) (rows : List (Ro W)), MR fl g rows → rows.map (·.m) = tmarks g
  | .nil, _, h => by rw [show _ = [] from h]; rfl
  | .cons m w k r, rows, ⟨x, rest, e, e1, e2, h3, h4⟩ => by
    rw [e, List.map_cons, mr_tm r rest h4, e1]
    rfl
theorem mr_wr {fl fl' : List (Ro W)} {q : Int} {nk : Fo W} (hn : MR fl' nk (kids fl' q)) : ∀ (g : Fo W) (rows : List (Ro W)), MR fl g rows → (∀ z ∈ marks g, z ≠ q → kids fl' z = kids fl z) → MR fl' (wr g q nk) rows
  | .nil, _, h, _ => h
  | .cons m w k r, rows, ⟨x, rest, e, e1, e2, h3, h4⟩, hk => by
    have hr := mr_wr hn r rest h4 fun z hz => hk z (List.mem_cons_of_mem _ (List.mem_append.mpr (.inr hz)))
    by_cases h : m = q
    · show MR fl' (if m = q then Fo.cons m w nk (wr r q nk) else _) rows
      rw [if_pos h]
      exact ⟨x, rest, e, e1, e2, by rw [h]; exact hn, hr⟩
    · show MR fl' (if m = q then Fo.cons m w nk (wr r q nk) else Fo.cons m w (wr k q nk) (wr r q nk)) rows
      rw [if_neg h]
      refine ⟨x, rest, e, e1, e2, ?_, hr⟩
      rw [hk m List.mem_cons_self h]
      exact mr_wr hn k _ h3 fun z hz => hk z (List.mem_cons_of_mem _ (List.mem_append.mpr (.inl hz)))
theorem ent_self : ∀ {f : Fo W} {p b : Int} {e : En W}, (marks f).Nodup → e ∈ ents f p b → e.m ∉ marks e.k
  | .nil, _, _, _, _, h => by simp [ents] at h
  | .cons m w k r, p, b, e, hn, h => by
    have h' : e = ⟨m, w, k, p, b⟩ ∨ e ∈ ents k m 0 ∨ e ∈ ents r p m := by simpa [ents] using h
    have hn' : (m :: (marks k ++ marks r)).Nodup := hn
    obtain ⟨n1, n2⟩ := List.nodup_cons.mp hn'
    obtain ⟨n3, n4, _⟩ := List.nodup_append.mp n2
    rcases h' with h' | h' | h'
    · subst h'
      exact fun z => n1 (List.mem_append.mpr (.inl z))
    · exact ent_self n3 h'
    · exact ent_self n4 h'
theorem mr_put {fl : List (Ro W)} {g k : Fo W} {x : Ro W} {b : Int} (hn : (fl.map (·.m)).Nodup) (gn : (marks g).Nodup) (g0 : (0 : Int) ∉ marks g) (hm : MR fl g (kids fl 0)) (hk : MR fl k (kids fl x.m))
    (hp : x.p = 0 ∨ x.p ∈ marks g) (pk : x.p ∉ marks k) (px : x.p ≠ x.m) (hb : b ∉ fl.map (·.m) ∨ ∃ y ∈ fl, y.m = b ∧ y.p = x.p) :
    MR (putL fl x b) (putIn g x.m x.w k x.p b) (kids (putL fl x b) 0) := by
  have kp := kids_put hn hb
  have ko : ∀ q, q ≠ x.p → kids (putL fl x b) q = kids fl q := fun q h => by rw [kp q, if_neg (Ne.symm h)]
  have hG : MR fl (rowAt g x.p) (kids fl x.p) ∧ x.p ∉ marks (rowAt g x.p) := by
    rcases hp with h | h
    · rw [h]
      unfold rowAt
      rw [if_pos rfl]
      exact ⟨hm, g0⟩
    · obtain ⟨e, h1, h2, h3⟩ := findE_mem h
      have e0 : e.m ≠ 0 := fun z => g0 (by rw [← z, h3]; exact h)
      rw [← h3, rowAt_of gn h2 e0]
      exact ⟨(mr_ent g _ 0 0 hm (fun _ hx => kids_mem.mp hx) e h2).2, ent_self gn h2⟩
  have h1 : MR (putL fl x b) (rowAt g x.p) (kids fl x.p) := mr_congr _ _ hG.1 fun q hq => ko q fun z => hG.2 (z ▸ hq)
  have h2 : MR (putL fl x b) k (kids (putL fl x b) x.m) := by
    rw [ko x.m (Ne.symm px)]
    exact mr_congr _ _ hk fun q hq => ko q fun z => pk (z ▸ hq)
  have h3 := mr_ins h2 _ (posL (tmarks (rowAt g x.p)) b) _ h1
  have h4 : kids (putL fl x b) x.p = insAt (kids fl x.p) (posL (tmarks (rowAt g x.p)) b) x := by
    rw [kp x.p, if_pos rfl, mr_tm _ _ hG.1]
  rw [← h4] at h3
  unfold putIn withRow
  by_cases h : x.p = 0
  · rw [if_pos h, ← h]
    exact h3
  · rw [if_neg h, ko 0 (Ne.symm h)]
    exact mr_wr h3 g _ hm fun z _ hz => ko z hz
/-! ### the marks behind -/
theorem marks_insN : ∀ (g : Fo W) (n : Nat) (m : Int) (w : W) (k : Fo W), (marks (insN g n m w k)).Perm (m :: (marks k ++ marks g))
  | .nil, 0, _, _, _ => List.Perm.refl _
  | .cons _ _ _ _, 0, _, _, _ => List.Perm.refl _
  | .nil, _ + 1, _, _, _ => List.Perm.refl _
  | .cons a b c r, n + 1, m, w, k => by
    have h := marks_insN r n m w k
    rw [List.perm_iff_count] at h ⊢
    intro z
    have h' := h z
    show List.count z (a :: (marks c ++ marks (insN r n m w k))) = List.count z (m :: (marks k ++ (a :: (marks c ++ marks r))))
    simp only [List.count_append, List.count_cons] at h' ⊢
    omega
theorem wr_none {q : Int} {nk : Fo W} : ∀ {g : Fo W}, q ∉ marks g → wr g q nk = g
  | .nil, _ => rfl
  | .cons m w k r, h => by
    have h1 : ¬ m = q := fun z => h (by rw [z]; exact List.mem_cons_self)
    show (if m = q then Fo.cons m w nk (wr r q nk) else Fo.cons m w (wr k q nk) (wr r q nk)) = _
    rw [if_neg h1, wr_none fun z => h (List.mem_cons_of_mem _ (List.mem_append.mpr (.inl z))), wr_none fun z => h (List.mem_cons_of_mem _ (List.mem_append.mpr (.inr z)))]
theorem taken_none {q : Int} : ∀ {g : Fo W}, q ∉ marks g → taken g q = g
  | .nil, _ => rfl
  | .cons m w k r, h => by
    have h1 : ¬ m = q := fun z => h (by rw [z]; exact List.mem_cons_self)
    show (if m = q then taken r q else Fo.cons m w (taken k q) (taken r q)) = _
    rw [if_neg h1, taken_none fun z => h (List.mem_cons_of_mem _ (List.mem_append.mpr (.inl z))), taken_none fun z => h (List.mem_cons_of_mem _ (List.mem_append.mpr (.inr z)))]
theorem count_wr {nk : Fo W} (z : Int) : ∀ (g : Fo W) (p b : Int) (e : En W), (marks g).Nodup → e ∈ ents g p b →
    List.count z (marks (wr g e.m nk)) + List.count z (marks e.k) = List.count z (marks g) + List.count z (marks nk)
  | .nil, _, _, _, _, h => by simp [ents] at h
  | .cons m w k r, p, b, e, hn, h => by
    have h' : e = ⟨m, w, k, p, b⟩ ∨ e ∈ ents k m 0 ∨ e ∈ ents r p m := by simpa [ents] using h
    have hn' : (m :: (marks k ++ marks r)).Nodup := hn
    obtain ⟨n1, n2⟩ := List.nodup_cons.mp hn'
    obtain ⟨n3, n4, n5⟩ := List.nodup_append.mp n2
    show List.count z (marks (if m = e.m then Fo.cons m w nk (wr r e.m nk) else Fo.cons m w (wr k e.m nk) (wr r e.m nk))) + _ = List.count z (m :: (marks k ++ marks r)) + _
    rcases h' with h' | h' | h'
    · subst h'
      rw [if_pos rfl, wr_none fun z => n1 (List.mem_append.mpr (.inr z))]
      show List.count z (m :: (marks nk ++ marks r)) + List.count z (marks k) = _
      simp only [List.count_append, List.count_cons]
      omega
    · have em : e.m ∈ marks k := mem_marks.mpr ⟨e, h', rfl⟩
      rw [if_neg fun q => n1 (List.mem_append.mpr (.inl (by rw [q]; exact em))), wr_none (g := r) fun q => n5 _ em _ q rfl]
      have ih := count_wr (nk := nk) z k m 0 e n3 h'
      show List.count z (m :: (marks (wr k e.m nk) ++ marks r)) + _ = _
      simp only [List.count_append, List.count_cons]
      omega
    · have em : e.m ∈ marks r := mem_marks.mpr ⟨e, h', rfl⟩
      rw [if_neg fun q => n1 (List.mem_append.mpr (.inr (by rw [q]; exact em))), wr_none (g := k) fun q => n5 _ q _ em rfl]
      have ih := count_wr (nk := nk) z r p m e n4 h'
      show List.count z (m :: (marks k ++ marks (wr r e.m nk))) + _ = _
      simp only [List.count_append, List.count_cons]
      omega
theorem count_taken (z : Int) : ∀ (g : Fo W) (p b : Int) (e : En W), (marks g).Nodup → e ∈ ents g p b →
    List.count z (e.m :: (marks e.k ++ marks (taken g e.m))) = List.count z (marks g)
  | .nil, _, _, _, _, h => by simp [ents] at h
  | .cons m w k r, p, b, e, hn, h => by
    have h' : e = ⟨m, w, k, p, b⟩ ∨ e ∈ ents k m 0 ∨ e ∈ ents r p m := by simpa [ents] using h
    have hn' : (m :: (marks k ++ marks r)).Nodup := hn
    obtain ⟨n1, n2⟩ := List.nodup_cons.mp hn'
    obtain ⟨n3, n4, n5⟩ := List.nodup_append.mp n2
    show List.count z (e.m :: (marks e.k ++ marks (if m = e.m then taken r e.m else Fo.cons m w (taken k e.m) (taken r e.m)))) = List.count z (m :: (marks k ++ marks r))
    rcases h' with h' | h' | h'
    · subst h'
      rw [if_pos rfl, taken_none fun z => n1 (List.mem_append.mpr (.inr z))]
    · have em : e.m ∈ marks k := mem_marks.mpr ⟨e, h', rfl⟩
      rw [if_neg fun q => n1 (List.mem_append.mpr (.inl (by rw [q]; exact em))), taken_none (g := r) fun q => n5 _ em _ q rfl]
      have ih := count_taken z k m 0 e n3 h'
      show List.count z (e.m :: (marks e.k ++ (m :: (marks (taken k e.m) ++ marks r)))) = _
      simp only [List.count_append, List.count_cons] at ih ⊢
      omega
    · have em : e.m ∈ marks r := mem_marks.mpr ⟨e, h', rfl⟩
      rw [if_neg fun q => n1 (List.mem_append.mpr (.inr (by rw [q]; exact em))), taken_none (g := k) fun q => n5 _ q _ em rfl]
      have ih := count_taken z r p m e n4 h'
      show List.count z (e.m :: (marks e.k ++ (m :: (marks k ++ marks (taken r e.m))))) = _
      simp only [List.count_append, List.count_cons] at ih ⊢
      omega
theorem perm_taken {g : Fo W} {p b : Int} {e : En W} (hn : (marks g).Nodup) (h : e ∈ ents g p b) : (e.m :: (marks e.k ++ marks (taken g e.m))).Perm (marks g) :=
  List.perm_iff_count.mpr fun z => count_taken z g p b e hn h
theorem perm_put {g k : Fo W} (gn : (marks g).Nodup) (g0 : (0 : Int) ∉ marks g) {m p b : Int} {w : W} (hp : p = 0 ∨ p ∈ marks g) : (marks (putIn g m w k p b)).Perm (m :: (marks k ++ marks g)) := by
  unfold putIn withRow
  rcases hp with h | h
  · rw [if_pos h]
    unfold rowAt
    rw [if_pos h]
    exact marks_insN _ _ _ _ _
  · have p0 : ¬ p = 0 := fun z => g0 (z ▸ h)
    rw [if_neg p0]
    obtain ⟨e, h1, h2, h3⟩ := findE_mem h
    subst h3
    rw [rowAt_of gn h2 p0]
    refine List.perm_iff_count.mpr fun z => ?_
    have q1 := count_wr (nk := insN e.k (posL (tmarks e.k) b) m w k) z g 0 0 e gn h2
    have q2 := List.perm_iff_count.mp (marks_insN e.k (posL (tmarks e.k) b) m w k) z
    simp only [List.count_append, List.count_cons] at q1 q2 ⊢
    omega
theorem worded_marks (m : Int) (n : W) : ∀ g : Fo W, marks (worded g m n) = marks g
  | .nil => rfl
  | .cons x w k r => by
    show x :: (marks (worded k m n) ++ marks (worded r m n)) = _
    rw [worded_marks m n k, worded_marks m n r]
    rfl
theorem kids_less (fl : List (Ro W)) (m q : Int) : kids (less fl m) q = less (kids fl q) m := by
  unfold kids less
  rw [List.filter_filter, List.filter_filter]
  congr 1
  funext x
  exact Bool.and_comm _ _
theorem mr_taken {fl : List (Ro W)} (m : Int) : ∀ (g : Fo W) (rows : List (Ro W)), MR fl g rows → MR (less fl m) (taken g m) (less rows m)
  | .nil, rows, h => by
    have e : rows = [] := h
    subst e
    rfl
  | .cons y w k r, rows, ⟨x, rest, e, e1, e2, h3, h4⟩ => by
    have hr := mr_taken m r rest h4
    subst e
    show MR (less fl m) (if y = m then taken r m else Fo.cons y w (taken k m) (taken r m)) ((x :: rest).filter _)
    by_cases h : y = m
    · rw [if_pos h, List.filter_cons, if_neg (by simpa using e1.trans h)]
      exact hr
    · rw [if_neg h, List.filter_cons, if_pos (by simpa [e1] using h)]
      refine ⟨x, _, rfl, e1, e2, ?_, hr⟩
      rw [kids_less]
      exact mr_taken m k _ h3
theorem less_none {fl : List (Ro W)} {m : Int} (h : m ∉ fl.map (·.m)) : less fl m = fl :=
  List.filter_eq_self.mpr fun x hx => decide_eq_true fun z => h (List.mem_map.mpr ⟨x, hx, z⟩)
theorem less_mem {fl : List (Ro W)} {m : Int} {x : Ro W} : x ∈ less fl m ↔ x ∈ fl ∧ x.m ≠ m := by
  unfold less
  rw [List.mem_filter]
  simp
theorem less_perm : ∀ {fl : List (Ro W)}, (fl.map (·.m)).Nodup → ∀ {x : Ro W}, x ∈ fl → fl.Perm (x :: less fl x.m)
  | [], _, _, h => by cases h
  | a :: l, hn, x, h => by
    rw [List.map_cons, List.nodup_cons] at hn
    rcases List.mem_cons.mp h with h1 | h1
    · subst h1
      show (x :: l).Perm (x :: (x :: l).filter _)
      rw [List.filter_cons, if_neg (by simp)]
      have z := less_none hn.1
      have z' : l.filter (fun y => decide (y.m ≠ x.m)) = l := z
      rw [z']
    · have ne : a.m ≠ x.m := fun z => hn.1 (List.mem_map.mpr ⟨x, h1, z.symm⟩)
      show (a :: l).Perm (x :: (a :: l).filter _)
      rw [List.filter_cons, if_pos (by simpa using ne)]
      exact ((less_perm hn.2 h1).cons a).trans (List.Perm.swap _ _ _)
theorem kids_map (fl : List (Ro W)) (φ : Ro W → Ro W) (h : ∀ x, (φ x).p = x.p) (q : Int) : kids (fl.map φ) q = (kids fl q).map φ := by
  unfold kids
  rw [List.filter_map]
  congr 1
  have e : ((fun x : Ro W => decide (x.p = q)) ∘ φ) = fun x => decide (x.p = q) := funext fun x => by
    show decide ((φ x).p = q) = _
    rw [h x]
  rw [e]
theorem mr_word {fl : List (Ro W)} (m : Int) (n : W) : ∀ (g : Fo W) (rows : List (Ro W)), MR fl g rows →
    MR (fl.map fun x => ⟨x.m, if x.m = m then n else x.w, x.p⟩) (worded g m n) (rows.map fun x => ⟨x.m, if x.m = m then n else x.w, x.p⟩)
  | .nil, rows, h => by
    have e : rows = [] := h
    subst e
    rfl
  | .cons y w k r, rows, ⟨x, rest, e, e1, e2, h3, h4⟩ => by
    subst e
    refine ⟨⟨x.m, if x.m = m then n else x.w, x.p⟩, _, rfl, e1, ?_, ?_, mr_word m n r rest h4⟩
    · show (if x.m = m then n else x.w) = if y = m then n else w
      rw [e1, e2]
    · rw [kids_map fl (fun x => (⟨x.m, if x.m = m then n else x.w, x.p⟩ : Ro W)) (fun _ => rfl)]
      exact mr_word m n k _ h3
/-! ### a deed done -/
section
variable {fl : List (Ro W)} {f : Fo W}
theorem Rep.zero (R : Rep fl f) : (0 : Int) ∉ marks f := fun h => absurd (R.pos 0 h) (by omega)
theorem Rep.step_add (R : Rep fl f) {m p b : Int} {w : W} (m0 : 0 < m) (h : POk f (.add m w p b)) : Rep (done fl (.add m w p b)) (behind f (.add m w p b)) := by
  obtain ⟨hm, hp, hb⟩ := h
  have nm : m ∉ fl.map (·.m) := fun z => hm (R.mm.mp z)
  show Rep (putL (less fl m) ⟨m, w, p⟩ b) (putIn f m w .nil p b)
  rw [less_none nm]
  have km : kids fl m = [] := List.eq_nil_iff_forall_not_mem.mpr fun x hx => by
    obtain ⟨h1, h2⟩ := kids_mem.mp hx
    rcases R.pc x h1 with z | z
    · omega
    · exact nm (h2 ▸ z)
  have pp := perm_put (m := m) (w := w) (k := Fo.nil) (b := b) R.nd R.zero hp
  have pl : (putL fl ⟨m, w, p⟩ b).Perm (⟨m, w, p⟩ :: fl) := insAt_perm _ _ _
  have pm := pl.map (·.m)
  refine ⟨mr_put (x := ⟨m, w, p⟩) R.nl R.nd R.zero R.mt (by show MR fl .nil (kids fl m); rw [km]; rfl) hp (fun z => by cases z) ?_ ?_, ?_, fun z hz => ?_, ?_, fun x hx => ?_⟩
  · show p ≠ m
    rcases hp with z | z
    · omega
    · exact fun e => hm (e ▸ z)
  · rcases hb with z | ⟨h1, e, he, q1, q2⟩
    · exact .inl fun q => R.zero (by rw [← z]; exact R.mm.mp q)
    · exact .inr ⟨_, (R.ent he).1, q1, q2⟩
  · exact pp.nodup_iff.mpr (List.nodup_cons.mpr ⟨hm, R.nd⟩)
  · rcases List.mem_cons.mp (pp.mem_iff.mp hz) with e | e
    · rw [e]; exact m0
    · exact R.pos z e
  · exact pm.trans ((R.pm.cons m).trans pp.symm)
  · have up : ∀ q, q ∈ fl.map (·.m) → q ∈ (putL fl ⟨m, w, p⟩ b).map (·.m) := fun q hq => pm.mem_iff.mpr (List.mem_cons_of_mem _ hq)
    rcases List.mem_cons.mp (pl.mem_iff.mp hx) with e | e
    · rw [e]
      exact hp.imp id fun z => up p (R.mm.mpr z)
    · exact (R.pc x e).imp id (up x.p)
theorem Rep.step_word (R : Rep fl f) (m : Int) (w : W) : Rep (done fl (.word m w)) (behind f (.word m w)) := by
  show Rep (fl.map fun x => ⟨x.m, if x.m = m then w else x.w, x.p⟩) (worded f m w)
  have e1 : (fl.map fun x => (⟨x.m, if x.m = m then w else x.w, x.p⟩ : Ro W)).map (·.m) = fl.map (·.m) := by
    rw [List.map_map]
    rfl
  refine ⟨?_, ?_, ?_, ?_, ?_⟩
  · rw [kids_map fl (fun x => (⟨x.m, if x.m = m then w else x.w, x.p⟩ : Ro W)) (fun _ => rfl)]
    exact mr_word m w f _ R.mt
  · rw [worded_marks]; exact R.nd
  · rw [worded_marks]; exact R.pos
  · rw [worded_marks, e1]; exact R.pm
  · intro x hx
    rw [e1]
    obtain ⟨y, hy, rfl⟩ := List.mem_map.mp hx
    exact R.pc y hy
theorem Rep.step_drop (R : Rep fl f) {m : Int} (h : POk f (.drop m)) : Rep (done fl (.drop m)) (behind f (.drop m)) := by
  obtain ⟨hm, hk⟩ := h
  show Rep (less fl m) (taken f m)
  obtain ⟨e, h1, h2, rfl⟩ := findE_mem hm
  rw [rowAt_of R.nd h2 (R.e0 h2)] at hk
  have pt := perm_taken R.nd h2
  rw [hk] at pt
  have pt : (e.m :: marks (taken f e.m)).Perm (marks f) := pt
  have hx := (R.ent h2).1
  have pl : fl.Perm (⟨e.m, e.w, e.p⟩ :: less fl e.m) := less_perm R.nl hx
  have nd := pt.nodup_iff.mpr R.nd
  have pm : (e.m :: (less fl e.m).map (·.m)).Perm (e.m :: marks (taken f e.m)) := ((pl.map (fun x : Ro W => x.m)).symm.trans R.pm).trans pt.symm
  refine ⟨?_, (List.nodup_cons.mp nd).2, fun z hz => R.pos z (pt.mem_iff.mp (List.mem_cons_of_mem _ hz)), (List.perm_cons _).mp pm, fun x hx' => ?_⟩
  · rw [kids_less]
    exact mr_taken e.m f _ R.mt
  · obtain ⟨q1, q2⟩ := less_mem.mp hx'
    rcases R.pc x q1 with z | z
    · exact .inl z
    · rcases List.mem_cons.mp ((pl.map (·.m)).mem_iff.mp z) with y | y
      · exfalso
        have y' : x.p = e.m := y
        have km := (R.ent h2).2
        rw [hk] at km
        have km' : kids fl e.m = [] := km
        have : x ∈ kids fl e.m := kids_mem.mpr ⟨q1, y'⟩
        rw [km'] at this
        cases this
      · exact .inr y
theorem Rep.step_move (R : Rep fl f) {m p b : Int} (h : POk f (.move m p b)) : Rep (done fl (.move m p b)) (behind f (.move m p b)) := by
  obtain ⟨hm, hp, hi, hb⟩ := h
  obtain ⟨e, h1, h2, rfl⟩ := findE_mem hm
  have hx := (R.ent h2).1
  have pt := perm_taken R.nd h2
  have nt := pt.nodup_iff.mpr R.nd
  obtain ⟨n1, n2⟩ := List.nodup_cons.mp nt
  obtain ⟨n3, n4, n5⟩ := List.nodup_append.mp n2
  have pl : fl.Perm (⟨e.m, e.w, e.p⟩ :: less fl e.m) := less_perm R.nl hx
  have nl : ((⟨e.m, e.w, e.p⟩ :: less fl e.m).map (·.m)).Nodup := (pl.map (·.m)).nodup_iff.mp R.nl
  obtain ⟨i1, i2⟩ := not_below R.nd R.pos h2 hi
  have hp' : p = 0 ∨ p ∈ marks (taken f e.m) := hp.imp id fun z => by
    rcases List.mem_cons.mp (pt.mem_iff.mpr z) with y | y
    · exact absurd y i1
    · exact (List.mem_append.mp y).resolve_left i2
  have t0 : (0 : Int) ∉ marks (taken f e.m) := fun z => R.zero (pt.mem_iff.mp (List.mem_cons_of_mem _ (List.mem_append.mpr (.inr z))))
  have mt : MR (less fl e.m) (taken f e.m) (kids (less fl e.m) 0) := by
    rw [kids_less]
    exact mr_taken e.m f _ R.mt
  have mk : MR (less fl e.m) e.k (kids (less fl e.m) e.m) := by
    have z := mr_taken e.m e.k _ (R.ent h2).2
    rw [taken_none (ent_self R.nd h2)] at z
    rw [kids_less]
    exact z
  have e1 : done fl (.move e.m p b) = putL (less fl e.m) ⟨e.m, e.w, p⟩ b := by
    have z := findL_of R.nl hx
    have z' : fl.find? (fun x => decide (x.m = e.m)) = some ⟨e.m, e.w, e.p⟩ := z
    show (match fl.find? (fun x => decide (x.m = e.m)) with | some x => putL (less fl e.m) ⟨e.m, x.w, p⟩ b | none => fl) = _
    rw [z']
  have e2 : behind f (.move e.m p b) = putIn (taken f e.m) e.m e.w e.k p b := by
    show (match findE f e.m with | some e' => putIn (taken f e.m) e'.m e'.w e'.k p b | none => f) = _
    rw [h1]
  rw [e1, e2]
  have pp := perm_put (m := e.m) (w := e.w) (k := e.k) (b := b) n4 t0 hp'
  have pq : (putL (less fl e.m) ⟨e.m, e.w, p⟩ b).Perm (⟨e.m, e.w, p⟩ :: less fl e.m) := insAt_perm _ _ _
  have pm : ((putL (less fl e.m) ⟨e.m, e.w, p⟩ b).map (·.m)).Perm (fl.map (·.m)) := (pq.map (·.m)).trans (pl.map (·.m)).symm
  refine ⟨mr_put (x := ⟨e.m, e.w, p⟩) (List.nodup_cons.mp nl).2 n4 t0 mt mk hp' i2 i1 ?_, ?_, fun z hz => ?_, ?_, fun x hx' => ?_⟩
  · rcases hb with z | ⟨q0, e', he, q1, q2⟩
    · refine .inl fun q => R.zero ?_
      rw [← z]
      exact R.mm.mp ((pl.map (·.m)).mem_iff.mpr (List.mem_cons_of_mem _ q))
    · exact .inr ⟨_, less_mem.mpr ⟨(R.ent he).1, by show e'.m ≠ e.m; rw [q1]; exact q0⟩, q1, q2⟩
  · exact (pp.trans pt).nodup_iff.mpr R.nd
  · exact R.pos z ((pp.trans pt).mem_iff.mp hz)
  · exact (pm.trans R.pm).trans (pp.trans pt).symm
  · rcases List.mem_cons.mp (pq.mem_iff.mp hx') with y | y
    · rw [y]
      exact hp.imp id fun z => pm.mem_iff.mpr (R.mm.mpr z)
    · exact (R.pc x (less_mem.mp y).1).imp id fun z => pm.mem_iff.mpr z
theorem Rep.step (R : Rep fl f) {d : De W} (m0 : 0 < deM d) (h : POk f d) : Rep (done fl d) (behind f d) := by
  cases d with
  | add m w p b => exact R.step_add m0 h
  | drop m => exact R.step_drop h
  | move m p b => exact R.step_move h
  | word m w => exact R.step_word m w
end
theorem done_len (fl : List (Ro W)) (d : De W) : (done fl d).length ≤ fl.length + 1 := by
  have h1 : ∀ m, (less fl m).length ≤ fl.length := fun m => by
    unfold less
    exact List.length_filter_le _ _
  cases d with
  | add m w p b =>
    have h := (insAt_perm (less fl m) (posL ((less fl m).map (·.m)) b) (⟨m, w, p⟩ : Ro W)).length_eq
    show (putL (less fl m) ⟨m, w, p⟩ b).length ≤ _
    unfold putL
    rw [h, List.length_cons]
    have := h1 m
    omega
  | drop m => exact Nat.le_succ_of_le (h1 m)
  | move m p b =>
    show (match fl.find? (fun x : Ro W => decide (x.m = m)) with | some x => putL (less fl m) ⟨m, x.w, p⟩ b | none => fl).length ≤ _
    split
    · rename_i x _
      have h := (insAt_perm (less fl m) (posL ((less fl m).map (fun y : Ro W => y.m)) b) (⟨m, x.w, p⟩ : Ro W)).length_eq
      unfold putL
      rw [h, List.length_cons]
      have := h1 m
      omega
    · exact Nat.le_succ _
  | word m w =>
    show (fl.map fun x => (⟨x.m, if x.m = m then w else x.w, x.p⟩ : Ro W)).length ≤ _
    rw [List.length_map]
    exact Nat.le_succ _
/-! ### several deeds -/
open Classical in
noncomputable def runF (f : Fo W) : List (De W) → Option (Fo W)
  | [] => some f
  | d :: ds => if POk f d then runF (behind f d) ds else none
theorem runF_pos {f : Fo W} {d : De W} (ds : List (De W)) (h : POk f d) : runF f (d :: ds) = runF (behind f d) ds := by
  rw [runF, if_pos h]
theorem runF_neg {f : Fo W} {d : De W} (ds : List (De W)) (h : ¬ POk f d) : runF f (d :: ds) = none := by
  rw [runF, if_neg h]
/-- the plot behind both in both orders -/
def Free (f : Fo W) (d e : De W) (g : Fo W) : Prop := runF f [d, e] = some g ∧ runF f [e, d] = some g
theorem Free.ok1 {f g : Fo W} {d e : De W} (h : Free f d e g) : POk f d ∧ POk f e := by
  constructor
  · exact Classical.byContradiction fun z => by
      have := h.1
      rw [runF_neg _ z] at this
      cases this
  · exact Classical.byContradiction fun z => by
      have := h.2
      rw [runF_neg _ z] at this
      cases this
theorem free_one {f g h : Fo W} {d e : De W} (a : Free f d e g) (b : Free f d e h) : g = h := Option.some.inj (a.1.symm.trans b.1)
end
end Gf
set_option Elab.async false
set_option linter.all false
set_option maxRecDepth 100000
set_option maxHeartbeats 4000000
/-! The text by places, the rules in short, what stands in the heap. -/
namespace Gf
open PySem PySem.Spec PyProof.Rows L2
def top (i : Nat) : Stmt := PySem.Challenge.pw_graftbook_k45_whole_free_deeds.main.body.getD i (.Pass ⟨0, 0, 0, 0⟩)
abbrev s_is_int : Stmt := top 9
abbrev s_is_count : Stmt := top 10
abbrev s_has_size : Stmt := top 11
abbrev s_is_word : Stmt := top 12
abbrev s_is_plot_value : Stmt := top 14
abbrev s_need_plot : Stmt := top 15
abbrev s_spots_of : Stmt := top 16
abbrev s_spots_below : Stmt := top 17
abbrev s_with_places : Stmt := top 18
abbrev s_places_of : Stmt := top 19
abbrev s_row_at : Stmt := top 20
abbrev s_spot_with : Stmt := top 21
abbrev s_with_row : Stmt := top 22
abbrev s_taken_out : Stmt := top 23
abbrev s_put_in : Stmt := top 24
abbrev s_worded : Stmt := top 25
abbrev s_is_mark : Stmt := top 27
abbrev s_is_deed : Stmt := top 28
abbrev s_need_deed : Stmt := top 29
abbrev s_refusal_of : Stmt := top 30
abbrev s_reason_at : Stmt := top 31
abbrev s_is_inside : Stmt := top 32
abbrev s_run_deed : Stmt := top 33
abbrev s_plot_behind_deed : Stmt := top 34
abbrev s_need_script : Stmt := top 36
abbrev s_run : Stmt := top 37
abbrev s_need_scripts : Stmt := top 39
abbrev s_reached : Stmt := top 40
abbrev s_met : Stmt := top 41
abbrev s_are_free : Stmt := top 42
abbrev s_agree : Stmt := top 43
abbrev s_need_runs : Stmt := top 44
abbrev s_merged : Stmt := top 45
abbrev s_mixed : Stmt := top 50
abbrev s_draw : Stmt := top 51
abbrev s_word : Stmt := top 52
abbrev s_mark : Stmt := top 53
abbrev s_fresh : Stmt := top 54
abbrev s_level : Stmt := top 55
abbrev s_put : Stmt := top 56
abbrev s_flat : Stmt := top 57
abbrev s_plot : Stmt := top 58
abbrev s_alike : Stmt := top 59
abbrev s_below : Stmt := top 60
abbrev s_reason : Stmt := top 61
abbrev s_done : Stmt := top 62
abbrev s_ran : Stmt := top 63
abbrev s_deed : Stmt := top 64
abbrev s_near : Stmt := top 66
abbrev s_both : Stmt := top 67
abbrev s_free : Stmt := top 68
abbrev s_wrong : Stmt := top 69
abbrev s_law : Stmt := top 70
/-- the built-in names still are -/
structure Bi (mg : Str → Option Value) : Prop where
  len : mg "len" = none
  range : mg "range" = none
  isinstance : mg "isinstance" = none
  all : mg "all" = none
  enumerate : mg "enumerate" = none
  tint : mg "int" = none
  tbool : mg "bool" = none
  tstr : mg "str" = none
  ttuple : mg "tuple" = none
  tlist : mg "list" = none
abbrev lettersS : Str := "abcdefghijklmnopqrstuvwxyz"
structure Cn (mg : Str → Option Value) (lt mt : Tok) : Prop where
  letters : mg "LETTERS" = some (.str lettersS lt)
  most : mg "MOST_LETTERS" = some (.int 8 mt)
/-- a def of the module keeps its promise -/
structure Pr (P : Program) (w : World) (K : PySem.W.Frag) (mg : Str → Option Value) (base : Heap) (CX : CXT) (k : Nat) (x : Str) (ps : List Str) (sp : Sp) : Prop where
  ex : ∃ (f : Addr) (fd : FuncData), FnOk P w K mg base CX k f fd ps sp ∧ mg x = some (.ref f) ∧ PySem.W.keepIn K (.ref f) = true ∧ Binds K fd ps []
/-- a def of the text stands at its name -/
structure Df (K : PySem.W.Frag) (mg : Str → Option Value) (x : Str) (st : Stmt) (ps : List Str) : Prop where
  ex : ∃ (f : Addr) (fd : FuncData), Fun K x x st f fd ∧ mg x = some (.ref f) ∧ Binds K fd ps []
section
variable {P : Program} {w : World} {K : PySem.W.Frag} {mg : Str → Option Value} {base : Heap} {CX : CXT} {x : Str} {st : Stmt} {N ps : List Str} {k j : Nat} {sp sp' : Sp}
theorem Pr.mono (G : Pr P w K mg base CX k x ps sp) (h : k ≤ j) : Pr P w K mg base CX j x ps sp := by
  obtain ⟨f, fd, F, r⟩ := G.ex
  exact ⟨f, fd, F.mono h, r⟩
theorem Pr.imp (G : Pr P w K mg base CX k x ps sp) (h : ∀ vs H Q E, sp' vs H Q E → sp vs H Q E) : Pr P w K mg base CX k x ps sp' := by
  obtain ⟨f, fd, F, r⟩ := G.ex
  exact ⟨f, fd, F.imp h, r⟩
theorem Df.ok (D : Df K mg x st ps) (S : FnScope N ps (defScope st)) (len : ∀ vs H Q E, sp vs H Q E → vs.length = ps.length)
    (hbody : ∀ (f : Addr) (cdv : Value) (A : Around) (outer : List Env) (s : Shared) (H : Hp) (vs : List V) (Q : VK) (E : XK), Room k (A.deeper (envOfC x (defScope st) s.heap.objs.size f cdv)) → sp vs H Q E →
      ∃ t, PSs (cxOf CX0 P w K mg base N x (defScope st) f cdv A outer s H E).nox (defBody st) t ∧ t { nx := fun _ H' => Q .non H', rt := Q } (start N vs) H) : Pr P w K mg base CX0 (k + 1) x ps sp := by
  obtain ⟨f, fd, F, m, b⟩ := D.ex
  exact ⟨f, fd, F.ok S len (hbody f), m, F.kp, b⟩
theorem Df.okX (D : Df K mg x st ps) (S : FnScope N ps (defScope st)) (len : ∀ vs H Q E, sp vs H Q E → vs.length = ps.length)
    (hbody : ∀ (f : Addr) (cdv : Value) (A : Around) (outer : List Env) (s : Shared) (H : Hp) (vs : List V) (Q : VK) (E : XK), Room k (A.deeper (envOfC x (defScope st) s.heap.objs.size f cdv)) → sp vs H Q E →
      ∃ t, PSs (cxOf (L2.CX P w) P w K mg base N x (defScope st) f cdv A outer s H E) (defBody st) t ∧ t { nx := fun _ H' => Q .non H', rt := Q } (start N vs) H) : Pr P w K mg base (L2.CX P w) (k + 1) x ps sp := by
  obtain ⟨f, fd, F, m, b⟩ := D.ex
  exact ⟨f, fd, F.okX S len (hbody f), m, F.kp, b⟩
end
/-- a promise that is never asked -/
theorem Df.none {P : Program} {w : World} {K : PySem.W.Frag} {mg : Str → Option Value} {base : Heap} {CX : CXT} {x : Str} {st : Stmt} {ps : List Str} {k : Nat} {sp : Sp} (D : Df K mg x st ps) (no : ∀ vs H Q E, ¬ sp vs H Q E) : Pr P w K mg base CX k x ps sp := by
  obtain ⟨f, fd, F, m, b⟩ := D.ex
  exact ⟨f, fd, ⟨fun vs H Q E h => absurd h (no vs H Q E), fun A outer s H args us vs Q E _ _ _ _ h => absurd h (no vs H Q E)⟩, m, F.kp, b⟩
/-- f(e, ..), f a def of the module -/
theorem pe_own {X : Cx} {CX : CXT} {k : Nat} {x : Str} {ps : List Str} {sp : Sp} {E : XK} {e : Expr} {es : List Expr} {t : TA} {p pos : Pos} (G : Pr X.prog X.w X.K X.mg X.base CX k x ps sp) (hr : Room k X.A) (hg : Gl X x) (hx : Passes CX X E) (ha : PA X (e :: es) t)
    (hdb : (x == ("__debug__" : Str)) = false := by decide) (he : starEach (e :: es) X.env = (false, eval e X.env) :: starEach es X.env := by rfl) (hpl : (backTo pos (starEach es X.env)).any (·.1) = false := by rfl) :
    PE X (.Call (.Name x p) (e :: es) [] pos) (tCall sp [] E t) := by
  obtain ⟨f, fd, F, m, kp, b⟩ := G.ex
  exact pe_call F hr hg m kp b .nil hx ha hdb he hpl
/-! ### heaps -/
theorem same_upd {H : Hp} {p : Addr} {o : HO} (h : H p = none) : Same H (upd H p o) := fun b x e => by
  rw [upd_ne (ne_of_none e h)]
  exact e
theorem _root_.L2.Same.seqT {K : PySem.W.Frag} {H H' : Hp} {a : Addr} {xs : List V} (e : Same H H') (h : SqT K H a xs) : SqT K H' a xs := by
  rcases h with (h | ⟨o, h⟩) | h
  · exact .inl (.inl (e _ _ h))
  · exact .inl (.inr ⟨o, e _ _ h⟩)
  · exact .inr h
/-- what is read stays: the tuples and lists of the one heap are those of the other -/
structure Kp (K : PySem.W.Frag) (H H' : Hp) : Prop where
  t : ∀ a xs, SqT K H a xs → SqT K H' a xs
theorem _root_.L2.Same.kp {K : PySem.W.Frag} {H H' : Hp} (h : Same H H') : Kp K H H' := ⟨fun _ _ q => h.seqT q⟩
theorem Kp.refl {K : PySem.W.Frag} {H : Hp} : Kp K H H := ⟨fun _ _ q => q⟩
theorem Kp.trans {K : PySem.W.Frag} {H H1 H2 : Hp} (a : Kp K H H1) (b : Kp K H1 H2) : Kp K H H2 := ⟨fun x xs q => b.t x xs (a.t x xs q)⟩
/-- a list, a dict is written: the tuples stay -/
theorem Kp.lst {K : PySem.W.Frag} {H : Hp} {l : Addr} {xs : List V} {o : HO} (h : H l = some (.lst xs)) : Kp K H (upd H l o) := ⟨fun a ys q => by
  rcases q with (q | ⟨ob, q⟩) | q
  · exact .inl (.inl (by rw [upd_ne (ne_of q h (by intro z; cases z))]; exact q))
  · exact .inl (.inr ⟨ob, by rw [upd_ne (ne_of q h (by intro z; cases z))]; exact q⟩)
  · exact .inr q⟩
theorem Kp.dK {K : PySem.W.Frag} {H : Hp} {l : Addr} {xs : List (Key × V)} {o : HO} (h : H l = some (.dK xs)) : Kp K H (upd H l o) := ⟨fun a ys q => by
  rcases q with (q | ⟨ob, q⟩) | q
  · exact .inl (.inl (by rw [upd_ne (ne_of q h (by intro z; cases z))]; exact q))
  · exact .inl (.inr ⟨ob, by rw [upd_ne (ne_of q h (by intro z; cases z))]; exact q⟩)
  · exact .inr q⟩
theorem Kp.new {K : PySem.W.Frag} {H : Hp} {p : Addr} {o : HO} (h : H p = none) : Kp K H (upd H p o) := (same_upd h).kp
abbrev FS := Fo Str
abbrev RS := Ro Str
abbrev DS := De Str
abbrev ES := En Str
/-- a row of spots -/
def SpA (K : PySem.W.Frag) (H : Hp) : FS → List V → Prop
  | .nil, vs => vs = []
  | .cons m w k r, vs => ∃ (p q : Addr) (ks rest : List V), vs = .ref p :: rest ∧ SqT K H p [.int m, .str w, .ref q] ∧ SqT K H q ks ∧ SpA K H k ks ∧ SpA K H r rest
/-- a plot -/
def FoA (K : PySem.W.Frag) (H : Hp) (f : FS) (a : Addr) : Prop := ∃ vs, SqT K H a vs ∧ SpA K H f vs
/-- the list of with_places -/
def TpA (K : PySem.W.Frag) (H : Hp) (p : Int) : FS → Int → List V → Prop
  | .nil, _, es => es = []
  | .cons m w k r, b, es => ∃ (t s q : Addr) (rest : List V), es = .ref t :: rest ∧ SqT K H t [.ref s, .int p, .int b] ∧ SqT K H s [.int m, .str w, .ref q] ∧ FoA K H k q ∧ TpA K H p r m rest
/-- the list of spots_of -/
def EnA (K : PySem.W.Frag) (H : Hp) : List ES → List V → Prop
  | [], es => es = []
  | e :: l, es => ∃ (t q : Addr) (rest : List V), es = .ref t :: rest ∧ SqT K H t [.int e.m, .str e.w, .ref q, .int e.p, .int e.b] ∧ FoA K H e.k q ∧ EnA K H l rest
/-- the law's rows -/
def RoA (K : PySem.W.Frag) (H : Hp) : List RS → List V → Prop
  | [], vs => vs = []
  | x :: l, vs => ∃ (t : Addr) (rest : List V), vs = .ref t :: rest ∧ SqT K H t [.int x.m, .str x.w, .int x.p] ∧ RoA K H l rest
section
variable {K : PySem.W.Frag} {H H' : Hp}
theorem SpA.mono (h : Kp K H H') : ∀ {f : FS} {vs : List V}, SpA K H f vs → SpA K H' f vs
  | .nil, _, q => q
  | .cons m w k r, _, ⟨p, q, ks, rest, e, h1, h2, h3, h4⟩ => ⟨p, q, ks, rest, e, h.t _ _ h1, h.t _ _ h2, SpA.mono h h3, SpA.mono h h4⟩
theorem FoA.mono (h : Kp K H H') {f : FS} {a : Addr} : FoA K H f a → FoA K H' f a := fun ⟨vs, h1, h2⟩ => ⟨vs, h.t _ _ h1, h2.mono h⟩
theorem TpA.mono (h : Kp K H H') {p : Int} : ∀ {f : FS} {b : Int} {vs : List V}, TpA K H p f b vs → TpA K H' p f b vs
  | .nil, _, _, q => q
  | .cons m w k r, _, _, ⟨t, s, q, rest, e, h1, h2, h3, h4⟩ => ⟨t, s, q, rest, e, h.t _ _ h1, h.t _ _ h2, h3.mono h, TpA.mono h h4⟩
theorem EnA.mono (h : Kp K H H') : ∀ {l : List ES} {vs : List V}, EnA K H l vs → EnA K H' l vs
  | [], _, q => q
  | _ :: _, _, ⟨t, q, rest, e, h1, h2, h3⟩ => ⟨t, q, rest, e, h.t _ _ h1, h2.mono h, EnA.mono h h3⟩
theorem RoA.mono (h : Kp K H H') : ∀ {l : List RS} {vs : List V}, RoA K H l vs → RoA K H' l vs
  | [], _, q => q
  | _ :: _, _, ⟨t, rest, e, h1, h2⟩ => ⟨t, rest, e, h.t _ _ h1, RoA.mono h h2⟩
theorem SpA.len : ∀ {f : FS} {vs : List V}, SpA K H f vs → vs.length ≤ (marks f).length
  | .nil, _, q => by rw [show _ = [] from q]; exact Nat.zero_le _
  | .cons m w k r, _, ⟨p, q, ks, rest, e, h1, h2, h3, h4⟩ => by
    have := SpA.len h4
    rw [e]
    show rest.length + 1 ≤ (m :: (marks k ++ marks r)).length
    rw [List.length_cons, List.length_append]
    omega
theorem TpA.len {p : Int} : ∀ {f : FS} {b : Int} {vs : List V}, TpA K H p f b vs → vs.length ≤ (marks f).length
  | .nil, _, _, q => by rw [show _ = [] from q]; exact Nat.zero_le _
  | .cons m w k r, _, _, ⟨t, s, q, rest, e, h1, h2, h3, h4⟩ => by
    have := TpA.len h4
    rw [e]
    show rest.length + 1 ≤ (m :: (marks k ++ marks r)).length
    rw [List.length_cons, List.length_append]
    omega
theorem EnA.len : ∀ {l : List ES} {vs : List V}, EnA K H l vs → vs.length = l.length
  | [], _, q => by rw [show _ = [] from q]; rfl
  | _ :: _, _, ⟨t, q, rest, e, h1, h2, h3⟩ => by rw [e, List.length_cons, List.length_cons, EnA.len h3]
theorem RoA.len : ∀ {l : List RS} {vs : List V}, RoA K H l vs → vs.length = l.length
  | [], _, q => by rw [show _ = [] from q]; rfl
  | _ :: _, _, ⟨t, rest, e, h1, h2⟩ => by rw [e, List.length_cons, List.length_cons, RoA.len h2]
theorem EnA.append : ∀ {l l' : List ES} {vs vs' : List V}, EnA K H l vs → EnA K H l' vs' → EnA K H (l ++ l') (vs ++ vs')
  | [], _, _, _, q, q' => by rw [show _ = [] from q]; exact q'
  | _ :: _, _, _, _, ⟨t, q, rest, e, h1, h2, h3⟩, q' => by
    rw [e]
    exact ⟨t, q, _, rfl, h1, h2, EnA.append h3 q'⟩
theorem drop_at {vs : List V} {i : Nat} {x : V} (h : vs[i]? = some x) : vs.drop i = x :: vs.drop (i + 1) := by
  obtain ⟨hi, e⟩ := List.getElem?_eq_some_iff.mp h
  rw [List.drop_eq_getElem_cons hi, e]
theorem drop_end {vs : List V} : vs.drop vs.length = [] := List.drop_eq_nil_of_le (Nat.le_refl _)
end
/-- behind what is new at o: H0 as it was -/
theorem _root_.L2.Same.over {H0 H : Hp} {o : Addr} {u : HO} (s : Same H0 H) (h : H0 o = none) : Same H0 (upd H o u) := fun b x e => by
  rw [upd_ne (ne_of_none e h)]
  exact s b x e
theorem fin_le {n : Nat} (h : n ≤ 1000) : n < sizeLine := small1000 h
theorem andT {c : Bool} {A G : Prop} (hx : c = true → G → A) (hk : G) : if c = true then A else G := by
  cases c with
  | true => exact hx rfl hk
  | false => exact hk
theorem itF {c : Bool} {A B : Prop} (h : c = false) (hb : B) : if c = true then A else B := by
  subst h
  rw [if_neg Bool.false_ne_true]
  exact hb
theorem itT {c : Bool} {A B : Prop} (h : c = true) (ha : A) : if c = true then A else B := by
  subst h
  rw [if_pos rfl]
  exact ha
/-! ### loops over anything that comes to an end -/
section
variable {J : It} {n : Nat} {g : TG} {tt : TT} {te tk tv : TE} {tb : TS} {vs : List Nat} {σ : L2.St} {H1 : Hp} {D : Addr} {Qd : Hp → Prop} {Ed : Ends}
theorem lc_gen (Pv : Nat → Hp → Prop) (h0 : Pv 0 (upd H1 D (.lst []))) (go : ∀ i H, i < n → Pv i H → J.go i H) (stop : ∀ H, Pv n H → J.stop n H)
    (hs : ∀ i x H H', i < n → Pv i H → J.yld i H x H' → g x (wipe σ vs) H' fun σ2 H2 => wipe σ2 vs = wipe σ vs ∧
      tt σ2 H2 fun b H3 => if b = true then te σ2 H3 fun y H4 => ∃ acc, H4 D = some (.lst acc) ∧ acc.length < sizeLine ∧ Pv (i + 1) (upd H4 D (.lst (acc ++ [y])))
        else Pv (i + 1) H3)
    (hd : ∀ H, Pv n H → Qd H) :
    ∃ W : Nat → Nat → Hp → Prop, (∃ m, W 0 m (upd H1 D (.lst []))) ∧ ∀ i m H, W i m H →
      (J.stop i H ∧ Qd H) ∨ (J.go i H ∧ ∃ Nx : Hp → Prop, (∀ H', Nx H' → ∃ m', m' < m ∧ W (i + 1) m' H') ∧ ∀ x H', J.yld i H x H' →
        g x (wipe σ vs) H' fun σ2 H2 => wipe σ2 vs = wipe σ vs ∧
          tt σ2 H2 fun b H3 => if b = true then te σ2 H3 fun y H4 => ∃ acc, H4 D = some (.lst acc) ∧ acc.length < sizeLine ∧ Nx (upd H4 D (.lst (acc ++ [y])))
            else Nx H3) := by
  refine ⟨fun i m H => m = n - i ∧ i ≤ n ∧ Pv i H, ⟨n, rfl, Nat.zero_le _, h0⟩, fun i m H hW => ?_⟩
  obtain ⟨rfl, hi, p⟩ := hW
  rcases Nat.lt_or_eq_of_le hi with hlt | rfl
  · exact .inr ⟨go i H hlt p, Pv (i + 1), fun H' p' => ⟨n - (i + 1), by omega, rfl, hlt, p'⟩, fun x H' y => hs i x H H' hlt p y⟩
  · exact .inl ⟨stop H p, hd H p⟩
theorem dc_gen (Pv : Nat → Hp → Prop) (h0 : Pv 0 (upd H1 D (.dK []))) (go : ∀ i H, i < n → Pv i H → J.go i H) (stop : ∀ H, Pv n H → J.stop n H)
    (hs : ∀ i x H H', i < n → Pv i H → J.yld i H x H' → g x (wipe σ vs) H' fun σ2 H2 => wipe σ2 vs = wipe σ vs ∧
      tt σ2 H2 fun b H3 => if b = true then tk σ2 H3 fun y H4 => tv σ2 H4 fun z H5 => ∃ kvs k, y = kV k ∧ H5 D = some (.dK kvs) ∧ kvs.length < sizeLine ∧ Pv (i + 1) (upd H5 D (.dK (putK kvs k z)))
        else Pv (i + 1) H3)
    (hd : ∀ H, Pv n H → Qd H) :
    ∃ W : Nat → Nat → Hp → Prop, (∃ m, W 0 m (upd H1 D (.dK []))) ∧ ∀ i m H, W i m H →
      (J.stop i H ∧ Qd H) ∨ (J.go i H ∧ ∃ Nx : Hp → Prop, (∀ H', Nx H' → ∃ m', m' < m ∧ W (i + 1) m' H') ∧ ∀ x H', J.yld i H x H' →
        g x (wipe σ vs) H' fun σ2 H2 => wipe σ2 vs = wipe σ vs ∧
          tt σ2 H2 fun b H3 => if b = true then tk σ2 H3 fun y H4 => tv σ2 H4 fun z H5 => ∃ kvs k, y = kV k ∧ H5 D = some (.dK kvs) ∧ kvs.length < sizeLine ∧ Nx (upd H5 D (.dK (putK kvs k z)))
            else Nx H3) := by
  refine ⟨fun i m H => m = n - i ∧ i ≤ n ∧ Pv i H, ⟨n, rfl, Nat.zero_le _, h0⟩, fun i m H hW => ?_⟩
  obtain ⟨rfl, hi, p⟩ := hW
  rcases Nat.lt_or_eq_of_le hi with hlt | rfl
  · exact .inr ⟨go i H hlt p, Pv (i + 1), fun H' p' => ⟨n - (i + 1), by omega, rfl, hlt, p'⟩, fun x H' y => hs i x H H' hlt p y⟩
  · exact .inl ⟨stop H p, hd H p⟩
theorem for_gen {H : Hp} (Pv : Nat → L2.St → Hp → Prop) (h0 : Pv 0 σ H) (go : ∀ i σ H, i < n → Pv i σ H → J.go i H) (stop : ∀ σ H, Pv n σ H → J.stop n H)
    (hs : ∀ i x σ H H', i < n → Pv i σ H → J.yld i H x H' → g x σ H' fun σ2 H2 => tb { Ed with nx := Pv (i + 1), ct := Pv (i + 1), bk := Ed.nx } σ2 H2) (hd : ∀ σ H, Pv n σ H → Ed.nx σ H) :
    ∃ W : Nat → Nat → L2.St → Hp → Prop, (∃ m, W 0 m σ H) ∧ ∀ i m σ H, W i m σ H →
      (J.stop i H ∧ Ed.nx σ H) ∨ (J.go i H ∧ ∃ N : L2.St → Hp → Prop, (∀ σ' H', N σ' H' → ∃ m', m' < m ∧ W (i + 1) m' σ' H') ∧
        ∀ x H', J.yld i H x H' → g x σ H' fun σ2 H2 => tb { Ed with nx := N, ct := N, bk := Ed.nx } σ2 H2) := by
  refine ⟨fun i m σ H => m = n - i ∧ i ≤ n ∧ Pv i σ H, ⟨n, rfl, Nat.zero_le _, h0⟩, fun i m σ H hW => ?_⟩
  obtain ⟨rfl, hi, p⟩ := hW
  rcases Nat.lt_or_eq_of_le hi with hlt | rfl
  · exact .inr ⟨go i σ H hlt p, Pv (i + 1), fun σ' H' p' => ⟨n - (i + 1), by omega, rfl, hlt, p'⟩, fun x H' y => hs i x σ H H' hlt p y⟩
  · exact .inl ⟨stop σ H p, hd σ H p⟩
end
end Gf
set_option Elab.async false
set_option linter.all false
set_option maxRecDepth 100000
set_option maxHeartbeats 4000000
namespace Gf
open PySem PySem.Spec PyProof.Rows L2
section
variable {P : Program} {w : World} {K : PySem.W.Frag} {mg : Str → Option Value} {base : Heap} {lt mt : Tok}
theorem sc_is_int : FnScope ["value"] ["value"] (defScope s_is_int) := ⟨rfl, rfl, rfl, by decide +kernel, rfl, by decide +kernel, by decide +kernel⟩
theorem sc_is_count : FnScope ["value"] ["value"] (defScope s_is_count) := ⟨rfl, rfl, rfl, by decide +kernel, rfl, by decide +kernel, by decide +kernel⟩
theorem sc_has_size : FnScope ["value", "size"] ["value", "size"] (defScope s_has_size) := ⟨rfl, rfl, rfl, by decide +kernel, rfl, by decide +kernel, by decide +kernel⟩
theorem sc_is_mark : FnScope ["value"] ["value"] (defScope s_is_mark) := ⟨rfl, rfl, rfl, by decide +kernel, rfl, by decide +kernel, by decide +kernel⟩
theorem sc_is_word : FnScope ["value", "sign"] ["value"] (defScope s_is_word) := ⟨rfl, rfl, rfl, by decide +kernel, rfl, by decide +kernel, by decide +kernel⟩
def sp_int : Sp := fun vs H Q _ => ∃ i : Int, vs = [.int i] ∧ Q (.bl true) H
theorem ok_is_int (D : Df K mg "is_int" s_is_int ["value"]) (B : Bi mg) : Pr P w K mg base CX0 1 "is_int" ["value"] sp_int := by
  refine D.ok sc_is_int (fun vs H Q E h => ?_) (fun f cdv A outer s H vs Q E hr h => ?_)
  · obtain ⟨i, rfl, _⟩ := h; rfl
  obtain ⟨i, rfl, q⟩ := h
  refine ⟨_, (pss_one (ps_ret (pe_and (pe_callB call_isi (by rfl) B.isinstance (by decide +kernel) (pa_cons (pv 0) (pa_cons (pe_bltn (v := .ty "int") (by rfl) B.tint (by decide +kernel) rfl) pa_nil))) (pe_one (pe_not (pe_callB call_isi (by rfl) B.isinstance (by decide +kernel) (pa_cons (pv 0) (pa_cons (pe_bltn (v := .ty "bool") (by rfl) B.tbool (by decide +kernel) rfl) pa_nil)))))))), ?_⟩
  refine ⟨_, rfl, .int i, .ty "int", _, _, true, rfl, .ty _, .base (.int _), kit_ty (by decide +kernel), _, rfl, iteT ?_⟩
  refine ⟨_, rfl, .int i, .ty "bool", _, _, false, rfl, .ty _, .base (.int _), kit_ty (by decide +kernel), _, rfl, ?_⟩
  exact q
def sp_count : Sp := fun vs H Q _ => ∃ i : Int, vs = [.int i] ∧ Q (.bl (decide (0 ≤ i))) H
theorem ok_is_count (D : Df K mg "is_count" s_is_count ["value"]) (G_is_int : Pr P w K mg base CX0 1 "is_int" ["value"] sp_int) : Pr P w K mg base CX0 2 "is_count" ["value"] sp_count := by
  refine D.ok sc_is_count (fun vs H Q E h => ?_) (fun f cdv A outer s H vs Q E hr h => ?_)
  · obtain ⟨i, rfl, _⟩ := h; rfl
  obtain ⟨i, rfl, q⟩ := h
  refine ⟨_, (pss_one (ps_ret (pe_and (pe_own G_is_int (hr.mono (by first | decide | omega)) (by rfl) pass0 (pa_cons (pv 0) pa_nil)) (pe_one (pe_cmpR op_ge (pv 0) pe_int (nomark _)))))), ?_⟩
  exact ⟨_, rfl, i, rfl, _, rfl, iteT ⟨_, rfl, _, _, rfl, rfl, q⟩⟩
def sp_mark : Sp := fun vs H Q _ => ∃ i : Int, vs = [.int i] ∧ Q (.bl (decide (0 < i))) H
theorem ok_is_mark (D : Df K mg "is_mark" s_is_mark ["value"]) (G_is_int : Pr P w K mg base CX0 1 "is_int" ["value"] sp_int) : Pr P w K mg base CX0 2 "is_mark" ["value"] sp_mark := by
  refine D.ok sc_is_mark (fun vs H Q E h => ?_) (fun f cdv A outer s H vs Q E hr h => ?_)
  · obtain ⟨i, rfl, _⟩ := h; rfl
  obtain ⟨i, rfl, q⟩ := h
  refine ⟨_, (pss_one (ps_ret (pe_and (pe_own G_is_int (hr.mono (by first | decide | omega)) (by rfl) pass0 (pa_cons (pv 0) pa_nil)) (pe_one (pe_cmpR op_gt (pv 0) pe_int (nomark _)))))), ?_⟩
  exact ⟨_, rfl, i, rfl, _, rfl, iteT ⟨_, rfl, _, _, rfl, rfl, q⟩⟩
/-- a tuple's type -/
theorem tyT {H : Hp} {a : Addr} {xs : List V} (h : SqT K H a xs) : TyX K H (.ref a) (.type "tuple") := by
  rcases h with (h | ⟨o, h⟩) | ⟨o, its, n, h, c, _⟩
  · exact .base (.tup h)
  · exact .fTuple h
  · exact .kTuple h c
def sp_size (K : PySem.W.Frag) : Sp := fun vs H Q _ => ∃ (a : Addr) (xs : List V) (n : Int), vs = [.ref a, .int n] ∧ SqT K H a xs ∧ Q (.bl (decide (V.int (xs.length : Int) = V.int n))) H
theorem ok_has_size (D : Df K mg "has_size" s_has_size ["value", "size"]) (B : Bi mg) : Pr P w K mg base CX0 1 "has_size" ["value", "size"] (sp_size K) := by
  refine D.ok sc_has_size (fun vs H Q E h => ?_) (fun f cdv A outer s H vs Q E hr h => ?_)
  · obtain ⟨a, xs, n, rfl, _⟩ := h; rfl
  obtain ⟨a, xs, n, rfl, hx, q⟩ := h
  refine ⟨_, (pss_one (ps_ret (pe_and (pe_callB call_isi (by rfl) B.isinstance (by decide +kernel) (pa_cons (pv 0) (pa_cons (pe_bltn (v := .ty "tuple") (by rfl) B.ttuple (by decide +kernel) rfl) pa_nil))) (pe_one (pe_cmpR op_eq (pe_callB call_len_seq (by rfl) B.len PySem.boot_len (pa_cons (pv 0) pa_nil)) (pv 1) (nomark _)))))), ?_⟩
  refine ⟨_, rfl, .ref a, .ty "tuple", _, _, true, rfl, .ty _, tyT hx, kit_ty (by decide +kernel), _, rfl, iteT ?_⟩
  exact ⟨_, rfl, a, xs, rfl, .inr hx, _, rfl, rfl, q⟩
/-- a word: 1 to 8 letters -/
def okW (z : Str) : Prop := 1 ≤ z.length ∧ z.length ≤ 8 ∧ ∀ c ∈ z.cps.toList, c ∈ lettersS.cps.toList
def sp_word : Sp := fun vs H Q _ => ∃ z : Str, vs = [.str z] ∧ ((okW z ∧ ∀ H', Same H H' → Q (.bl true) H') ∨ (z.length = 0 ∧ Q (.bl false) H))
theorem str_len (z : Str) : (z.length : Int) = ((z.cps.toList.length : Nat) : Int) := by
  rw [Array.length_toList]
  rfl
theorem ok_is_word (D : Df K mg "is_word" s_is_word ["value"]) (B : Bi mg) (C : Cn mg lt mt) : Pr P w K mg base CX0 1 "is_word" ["value"] sp_word := by
  refine D.ok sc_is_word (fun vs H Q E h => ?_) (fun f cdv A outer s H vs Q E hr h => ?_)
  · obtain ⟨z, rfl, _⟩ := h; rfl
  obtain ⟨z, rfl, q⟩ := h
  refine ⟨_, (pss_cons (ps_if (PW.pt (pw_or (pt_not (pt_val (pe_callB call_isi (by rfl) B.isinstance (by decide +kernel) (pa_cons (pv 0) (pa_cons (pe_bltn (v := .ty "str") (by rfl) B.tstr (by decide +kernel) rfl) pa_nil))))) (pw_or1 (pt_not (pt_chain op_le op_le pe_int (pe_callB call_len_str (by rfl) B.len PySem.boot_len (pa_cons (pv 0) pa_nil)) (pe_glob (v := .int 8) (by rfl) C.most ⟨_, rfl⟩)))))) (pss_one (ps_ret pe_bl)) pss_nil)
    (pss_one (ps_ret (pe_callB (cr_all rfl) (by rfl) B.all (by decide +kernel) (pa_cons (pe_lc (own := [("sign", 1)]) (g := gName 1) (tt := tYes) (te := tOp (fun x y H Q => ∃ (c : Nat) (z : Str), x = .str ⟨#[c]⟩ ∧ y = .str z ∧ Q (.bl (decide (c ∈ z.cps.toList))) H) (tVar 1) (tC (.str lettersS))) rfl sc_is_word.nd (pi_str (pv 0)) (blkOk_by (N := ["value", "sign"]) (sc := defScope s_is_word) (by decide +kernel)) (fun _ _ _ _ _ => pg_name (i := 1) sc_is_word.nd rfl (Or.inl rfl)) (fun _ _ _ _ _ => pts_nil) (fun _ _ _ _ _ => (pe_cmpR op_in_sign (pv 1) (pe_glob (v := .str lettersS) (by rfl) C.letters ⟨_, rfl⟩) (by rfl)))) pa_nil))))), ?_⟩
  have hz : z.length ≤ sizeLine := by
    rcases q with ⟨q, _⟩ | ⟨q, _⟩
    · exact Nat.le_trans q.2.1 (by rw [sizeLine_eq]; omega)
    · rw [q]; exact Nat.zero_le _
  refine ⟨_, rfl, .str z, .ty "str", _, _, true, rfl, .ty _, .base (.str _), kit_ty (by decide +kernel), _, rfl, itF rfl ?_⟩
  refine ⟨_, rfl, z, rfl, hz, _, _, rfl, rfl, _, rfl, ?_⟩
  have e1 : (decide ((1 : Int) ≤ (z.length : Int))) = decide (1 ≤ z.length) := by
    by_cases c : 1 ≤ z.length
    · rw [decide_eq_true c, decide_eq_true (by omega)]
    · rw [decide_eq_false c, decide_eq_false (by omega)]
  rcases q with ⟨⟨h1, h8, hc⟩, q⟩ | ⟨h0, q⟩
  · refine itT (by rw [e1, decide_eq_true h1]) ⟨_, _, rfl, rfl, _, rfl, ?_⟩
    refine itF (by rw [decide_eq_true (by omega : (z.length : Int) ≤ 8)]; rfl) ?_
    refine ⟨_, rfl, z, rfl, fun D hD => ?_⟩
    have hn : ∀ {H' : Hp} {o : HO}, Same H H' → Same H (upd H' D o) := fun {H' o} sm b x e => by
      rw [upd_ne (ne_of_none e hD)]
      exact sm b x e
    refine lc_gen (n := z.cps.size) (fun i H' => Same H H' ∧ H' D = some (.lst (List.replicate i (V.bl true)))) ⟨same_upd hD, upd_same⟩ (fun i H' hi _ => hi) (fun H' _ => Nat.le_refl _) (fun i x H1 H2 hi p y => ?_) (fun H' p => ?_)
    · obtain ⟨rfl, c, ec, rfl⟩ := y
      have hm : c ∈ z.cps.toList := by
        rw [Array.mem_toList_iff]
        exact Array.mem_of_getElem? ec
      refine ⟨rfl, ?_⟩
      refine ⟨_, rfl, c, lettersS, rfl, rfl, ?_⟩
      rw [decide_eq_true (hc c hm)]
      refine ⟨_, p.2, ?_, hn p.1, ?_⟩
      · rw [List.length_replicate]
        exact Nat.lt_of_lt_of_le hi hz
      · rw [upd_same]
        congr 2
        exact (List.replicate_succ' (n := i) (a := V.bl true)).symm
    · refine ⟨D, List.replicate z.cps.size true, rfl, .inl (.inl (by rw [List.map_replicate]; exact p.2)), ?_⟩
      have e : (List.replicate z.cps.size true).all id = true := List.all_eq_true.mpr fun b hb => by rw [List.eq_of_mem_replicate hb]; rfl
      rw [e]
      exact q H' p.1
  · refine itF (by rw [e1, decide_eq_false (by omega)]) ?_
    exact ⟨_, rfl, iteT q⟩
end
end Gf
set_option Elab.async false
set_option linter.all false
set_option maxRecDepth 100000
set_option maxHeartbeats 4000000
namespace Gf
open PySem PySem.Spec PyProof.Rows L2
section
variable {P : Program} {w : World} {K : PySem.W.Frag} {mg : Str → Option Value} {base : Heap} {lt mt : Tok}
theorem sc_with_places : FnScope ["row", "parent", "found", "behind", "spot"] ["row", "parent"] (defScope s_with_places) := ⟨rfl, rfl, rfl, by decide +kernel, rfl, by decide +kernel, by decide +kernel⟩
def sp_with (K : PySem.W.Frag) : Sp := fun vs H Q _ => ∃ (a : Addr) (f : FS) (p : Int), vs = [.ref a, .int p] ∧ FoA K H f a ∧ (marks f).length ≤ 1000 ∧
  ∀ H' r es, Same H H' → H r = none → H' r = some (.lst es) → TpA K H' p f 0 es → Q (.ref r) H'
theorem ok_with_places (D : Df K mg "with_places" s_with_places ["row", "parent"]) : Pr P w K mg base CX0 1 "with_places" ["row", "parent"] (sp_with K) := by
  refine D.ok sc_with_places (fun vs H Q E h => ?_) (fun fa cdv A outer s H vs Q E hr h => ?_)
  · obtain ⟨a, f, p, rfl, _⟩ := h; rfl
  obtain ⟨a, f, p, rfl, ⟨ks, ha, hs⟩, hlen, q⟩ := h
  refine ⟨_, (pss_cons (ps_set (i := 2) sc_with_places.nd rfl (Or.inl rfl) (pe_lst pa_nil))
    (pss_cons (ps_set (i := 3) sc_with_places.nd rfl (Or.inl rfl) pe_int)
    (pss_cons (ps_for PassesOwn.never rfl (pi_tup (pv 0)) (pg_name (i := 4) sc_with_places.nd rfl (Or.inl rfl)) (pss_cons (ps_expr (pe_bm PySem.F.plainAttrs_list PySem.F.slot_list_append PySem.F.type_list_append mt_append (pv 2) (pa_cons (pe_tup (pa_cons (pv 4) (pa_cons (pv 1) (pa_cons (pv 3) pa_nil)))) pa_nil)))
    (pss_one (ps_set (i := 3) sc_with_places.nd rfl (Or.inl rfl) (pe_ix ix_tup (pv 4) pe_int (fun _ _ => rfl))))))
    (pss_one (ps_ret (pv 2)))))), ?_⟩
  refine ⟨Nat.zero_le _, fun o no => ?_⟩
  have hks := hs.len
  refine ⟨.ref a, rfl, a, rfl, ⟨ks, (same_upd no).seqT ha⟩, for_tup (K := K) (a := a) (xs := ks) (fun i σ H' => ∃ (g : FS) (b : Int) (es : List V) (sv : Option V), σ = [some (.ref a), some (.int p), some (.ref o), some (.int b), sv] ∧ Same H H' ∧ H' o = some (.lst es) ∧ es.length = i ∧
      SpA K H g (ks.drop i) ∧ (∀ H'' es', Kp K H' H'' → TpA K H'' p g b es' → TpA K H'' p f 0 (es ++ es')))
    ⟨f, 0, [], none, rfl, same_upd no, upd_same, rfl, hs, fun _ _ _ z => z⟩ (fun i σ H' _ p => ?_) (fun i x σ H' hx hp => ?_) (fun σ H' hp => ?_)⟩
  · obtain ⟨g, b, es, sv, _, sm, _⟩ := p
    exact sm.seqT ha
  · obtain ⟨g, b, es, sv, rfl, sm, ho, hl, hg, hc⟩ := hp
    have hi := (List.getElem?_eq_some_iff.mp hx).1
    rw [drop_at hx] at hg
    cases g with
    | nil => cases hg
    | cons m w k r =>
      obtain ⟨pa, qa, kk, rest, e, h1, h2, h3, h4⟩ := hg
      obtain ⟨rfl, rfl⟩ := List.cons.inj e
      refine ⟨_, rfl, .inl ⟨rfl, _, .inl (.inl ho)⟩, _, rfl, _, rfl, _, rfl, (by show 3 ≤ sizeLine; decide), fun t nt => ?_⟩
      have s2 : Same H' (upd H' t (.tup [.ref pa, .int p, .int b])) := same_upd nt
      have not_ : o ≠ t := ne_of_none ho nt
      refine ⟨o, es, _, rfl, rfl, s2 _ _ ho, fin_le (by omega), ?_⟩
      have s3 : Same H (upd (upd H' t (.tup [.ref pa, .int p, .int b])) o (.lst (es ++ [.ref t]))) := (sm.trans s2).over no
      refine ⟨_, rfl, pa, _, 0, .int m, rfl, rfl, s3.seqT h1, atI_nat (j := 0) rfl, ?_⟩
      refine ⟨r, m, es ++ [.ref t], _, rfl, s3, upd_same, by rw [List.length_append, hl]; rfl, h4, fun H'' es' kp z => ?_⟩
      rw [List.append_assoc]
      have kp2 : Kp K H' (upd (upd H' t (.tup [.ref pa, .int p, .int b])) o (.lst (es ++ [.ref t]))) := s2.kp.trans (Kp.lst (s2 _ _ ho))
      have hk := kp2.trans kp
      have ht : SqT K H'' t [.ref pa, .int p, .int b] := ((Kp.lst (s2 _ _ ho)).trans kp).t _ _ (.inl (.inl upd_same))
      refine hc H'' _ hk ⟨t, pa, qa, es', rfl, ht, (sm.kp.trans hk).t _ _ h1, ⟨kk, (sm.kp.trans hk).t _ _ h2, SpA.mono (sm.kp.trans hk) h3⟩, z⟩
  · obtain ⟨g, b, es, sv, rfl, sm, ho, hl, hg, hc⟩ := hp
    rw [drop_end] at hg
    have hz := hc H' []
    refine ⟨_, rfl, q H' o es sm no ho ?_⟩
    cases g with
    | nil =>
      have z := hz Kp.refl rfl
      rw [List.append_nil] at z
      exact z
    | cons m w k r =>
      obtain ⟨pa, qa, kk, rest, e, _⟩ := hg
      cases e
theorem sc_spots_below : FnScope ["row", "parent", "found", "spot", "above", "behind", "mark", "word", "children"] ["row", "parent"] (defScope s_spots_below) := ⟨rfl, rfl, rfl, by decide +kernel, rfl, by decide +kernel, by decide +kernel⟩
def sp_below (K : PySem.W.Frag) (n : Nat) : Sp := fun vs H Q _ => ∃ (a : Addr) (f : FS) (p : Int), vs = [.ref a, .int p] ∧ FoA K H f a ∧ (marks f).length ≤ 1000 ∧ depth f < n ∧
  ∀ H' r es, Same H H' → H r = none → H' r = some (.lst es) → EnA K H' (ents f p 0) es → Q (.ref r) H'
theorem ents_len (f : FS) (p b : Int) : (ents f p b).length = (marks f).length := by
  rw [← ents_marks f p b, List.length_map]
theorem ok_spots_below (D : Df K mg "spots_below" s_spots_below ["row", "parent"]) (G_with_places : Pr P w K mg base CX0 1 "with_places" ["row", "parent"] (sp_with K)) :
    ∀ n : Nat, Pr P w K mg base CX0 (n + 1) "spots_below" ["row", "parent"] (sp_below K n)
  | 0 => D.none fun vs H Q E h => by
    obtain ⟨a, f, p, _, _, _, h, _⟩ := h
    exact absurd h (Nat.not_lt_zero _)
  | n + 1 => by
    have G_spots_below : Pr P w K mg base CX0 (n + 1) "spots_below" ["row", "parent"] (sp_below K n) := ok_spots_below D G_with_places n
    refine D.ok sc_spots_below (fun vs H Q E h => ?_) (fun fa cdv A outer s H vs Q E hr h => ?_)
    · obtain ⟨a, f, p, rfl, _⟩ := h; rfl
    obtain ⟨a, f, p, rfl, hf, hlen, hd, q⟩ := h
    refine ⟨_, (pss_cons (ps_set (i := 2) sc_spots_below.nd rfl (Or.inl rfl) (pe_lst pa_nil))
    (pss_cons (ps_for PassesOwn.never rfl (pi_list (pe_own G_with_places (hr.mono (by first | decide | omega)) (by rfl) pass0 (pa_cons (pv 0) (pa_cons (pv 1) pa_nil)))) (pg_tup rfl (pgs_cons (pg_name (i := 3) sc_spots_below.nd rfl (Or.inl rfl)) (pgs_cons (pg_name (i := 4) sc_spots_below.nd rfl (Or.inl rfl)) (pgs_cons (pg_name (i := 5) sc_spots_below.nd rfl (Or.inl rfl)) pgs_nil)))) (pss_cons (ps_asg (pv 3) (pg_tup rfl (pgs_cons (pg_name (i := 6) sc_spots_below.nd rfl (Or.inl rfl)) (pgs_cons (pg_name (i := 7) sc_spots_below.nd rfl (Or.inl rfl)) (pgs_cons (pg_name (i := 8) sc_spots_below.nd rfl (Or.inl rfl)) pgs_nil)))))
    (pss_cons (ps_expr (pe_bm PySem.F.plainAttrs_list PySem.F.slot_list_append PySem.F.type_list_append mt_append (pv 2) (pa_cons (pe_tup (pa_cons (pv 6) (pa_cons (pv 7) (pa_cons (pv 8) (pa_cons (pv 4) (pa_cons (pv 5) pa_nil)))))) pa_nil)))
    (pss_one (ps_expr (pe_bm PySem.F.plainAttrs_list PySem.F.slot_list_extend PySem.F.type_list_extend mt_extend (pv 2) (pa_cons (pe_own G_spots_below (hr.mono (by first | decide | omega)) (by rfl) pass0 (pa_cons (pv 8) (pa_cons (pv 6) pa_nil))) pa_nil)))))))
    (pss_one (ps_ret (pv 2))))), ?_⟩
    refine ⟨Nat.zero_le _, fun o no => ?_⟩
    refine ⟨_, rfl, _, rfl, a, f, p, rfl, hf.mono (same_upd no).kp, hlen, fun H1 rw_ wl sm1 nw hw hT => ?_⟩
    have ow : o ≠ rw_ := ne_of_none upd_same nw
    have ho1 : H1 o = some (.lst []) := sm1 _ _ upd_same
    have smA : Same H H1 := (same_upd no).trans sm1
    have hwl := hT.len
    refine ⟨rw_, rfl, ⟨_, .inl (.inl hw)⟩, for_list (K := K) (a := rw_) (xs := wl) (fun i σ H' => ∃ (g : FS) (b : Int) (acc : List V) (s3 s4 s5 s6 s7 s8 : Option V),
        σ = [some (.ref a), some (.int p), some (.ref o), s3, s4, s5, s6, s7, s8] ∧ Same H H' ∧ H' o = some (.lst acc) ∧ H' rw_ = some (.lst wl) ∧ TpA K H' p g b (wl.drop i) ∧ acc.length + (marks g).length ≤ (marks f).length ∧ depth g < n + 1 ∧
        (∀ H'' es', Kp K H' H'' → EnA K H'' (ents g p b) es' → EnA K H'' (ents f p 0) (acc ++ es')))
      ⟨f, 0, [], none, none, none, none, none, none, rfl, smA, ho1, hw, hT, by simp, hd, fun _ _ _ z => z⟩ (fun i σ H' _ hp => ?_) (fun i x σ H' hx hp => ?_) (fun σ H' hp => ?_)⟩
    · obtain ⟨g, b, acc, s3, s4, s5, s6, s7, s8, _, _, _, hw, _⟩ := hp
      exact .inl (.inl hw)
    · obtain ⟨g, b, acc, s3, s4, s5, s6, s7, s8, rfl, sm, ho, hw', hg, hal, hdg, hc⟩ := hp
      rw [drop_at hx] at hg
      cases g with
      | nil => cases hg
      | cons m w k r =>
        obtain ⟨t, sa, qa, rest, e, h1, h2, h3, h4⟩ := hg
        obtain ⟨rfl, rfl⟩ := List.cons.inj e
        have hml : (marks (Fo.cons m w k r)).length = (marks k).length + (marks r).length + 1 := by
          show (m :: (marks k ++ marks r)).length = _
          rw [List.length_cons, List.length_append]
        have hdd : depth (Fo.cons m w k r) = max (depth k + 1) (depth r) := rfl
        -- spot, above, behind = the item; mark, word, children = spot
        refine ⟨t, _, rfl, h1, rfl, _, _, rfl, _, _, rfl, _, _, rfl, rfl, ?_⟩
        refine ⟨_, rfl, sa, _, rfl, h2, rfl, _, _, rfl, _, _, rfl, _, _, rfl, rfl, ?_⟩
        -- found.append(..)
        refine ⟨_, rfl, .inl ⟨rfl, _, .inl (.inl ho)⟩, _, rfl, _, rfl, _, rfl, _, rfl, _, rfl, (by show 5 ≤ sizeLine; decide), fun t2 nt => ?_⟩
        have sT : Same H' (upd H' t2 (.tup [.int m, .str w, .ref qa, .int p, .int b])) := same_upd nt
        refine ⟨o, acc, _, rfl, rfl, sT _ _ ho, fin_le (by omega), ?_⟩
        have kpT : Kp K H' (upd (upd H' t2 (.tup [.int m, .str w, .ref qa, .int p, .int b])) o (.lst (acc ++ [.ref t2]))) := sT.kp.trans (Kp.lst (sT _ _ ho))
        have sm2 : Same H (upd (upd H' t2 (.tup [.int m, .str w, .ref qa, .int p, .int b])) o (.lst (acc ++ [.ref t2]))) := (sm.trans sT).over no
        have ht2 : SqT K (upd (upd H' t2 (.tup [.int m, .str w, .ref qa, .int p, .int b])) o (.lst (acc ++ [.ref t2]))) t2 [.int m, .str w, .ref qa, .int p, .int b] := (Kp.lst (sT _ _ ho)).t _ _ (.inl (.inl upd_same))
        have hw2 : (upd (upd H' t2 (.tup [.int m, .str w, .ref qa, .int p, .int b])) o (.lst (acc ++ [.ref t2]))) rw_ = some (.lst wl) := by
          rw [upd_ne (Ne.symm ow)]
          exact sT _ _ hw'
        generalize hH2 : upd (upd H' t2 (.tup [.int m, .str w, .ref qa, .int p, .int b])) o (.lst (acc ++ [.ref t2])) = H2 at kpT sm2 ht2 hw2 ⊢
        have ho2 : H2 o = some (.lst (acc ++ [.ref t2])) := by rw [← hH2, upd_same]
        -- found.extend(spots_below(children, mark))
        refine ⟨_, rfl, .inl ⟨rfl, _, .inl (.inl ho2)⟩, _, rfl, _, rfl, qa, k, m, rfl, h3.mono kpT, by omega, by omega, fun H3 rb es sm3 nb hb hE => ?_⟩
        have hel := hE.len
        rw [ents_len] at hel
        refine ⟨o, rb, _, es, rfl, rfl, sm3 _ _ ho2, hb, ?_, ?_⟩
        · rw [List.length_append, List.length_singleton, hel]
          exact Nat.le_of_lt (fin_le (by omega))
        have kp3 : Kp K H3 (upd H3 o (.lst (acc ++ [.ref t2] ++ es))) := Kp.lst (sm3 _ _ ho2)
        refine ⟨r, m, acc ++ [.ref t2] ++ es, _, _, _, _, _, _, rfl, (sm2.trans sm3).over no, upd_same, ?_, h4.mono ((kpT.trans sm3.kp).trans kp3), ?_, by omega, fun H'' es' kp z => ?_⟩
        · rw [upd_ne (Ne.symm ow)]
          exact sm3 _ _ hw2
        · rw [List.length_append, List.length_append, List.length_singleton, hel]
          omega
        have k3 : Kp K H3 H'' := kp3.trans kp
        rw [List.append_assoc, List.append_assoc]
        exact hc H'' _ ((kpT.trans sm3.kp).trans k3) ⟨t2, qa, es ++ es', rfl, k3.t _ _ (sm3.kp.t _ _ ht2), h3.mono ((kpT.trans sm3.kp).trans k3), (hE.mono k3).append z⟩
    · obtain ⟨g, b, acc, s3, s4, s5, s6, s7, s8, rfl, sm, ho, hw', hg, hal, hdg, hc⟩ := hp
      rw [drop_end] at hg
      refine ⟨_, rfl, q H' o acc sm no ho ?_⟩
      cases g with
      | nil =>
        have z := hc H' [] Kp.refl rfl
        rw [List.append_nil] at z
        exact z
      | cons m w k r =>
        obtain ⟨t, sa, qa, rest, e, _⟩ := hg
        cases e
theorem sc_spots_of : FnScope ["t"] ["t"] (defScope s_spots_of) := ⟨rfl, rfl, rfl, by decide +kernel, rfl, by decide +kernel, by decide +kernel⟩
def sp_spots (K : PySem.W.Frag) (n : Nat) : Sp := fun vs H Q _ => ∃ (a : Addr) (f : FS), vs = [.ref a] ∧ FoA K H f a ∧ (marks f).length ≤ 1000 ∧ depth f < n ∧
  ∀ H' r es, Same H H' → H r = none → H' r = some (.lst es) → EnA K H' (ents f 0 0) es → Q (.ref r) H'
theorem ok_spots_of {n : Nat} (D : Df K mg "spots_of" s_spots_of ["t"]) (G_spots_below : Pr P w K mg base CX0 (n + 1) "spots_below" ["row", "parent"] (sp_below K n)) :
    Pr P w K mg base CX0 (n + 2) "spots_of" ["t"] (sp_spots K n) := by
  refine D.ok sc_spots_of (fun vs H Q E h => ?_) (fun fa cdv A outer s H vs Q E hr h => ?_)
  · obtain ⟨a, f, rfl, _⟩ := h; rfl
  obtain ⟨a, f, rfl, hf, hlen, hd, q⟩ := h
  refine ⟨_, (pss_one (ps_ret (pe_own G_spots_below (hr.mono (by first | decide | omega)) (by rfl) pass0 (pa_cons (pv 0) (pa_cons pe_int pa_nil))))), ?_⟩
  exact ⟨_, rfl, a, f, 0, rfl, hf, hlen, hd, q⟩
end
end Gf
set_option Elab.async false
set_option linter.all false
set_option maxRecDepth 100000
set_option maxHeartbeats 4000000
/-! enumerate(a tuple), walked by a for with a written pair as its target -/
namespace Gf
open PySem PySem.Spec PyProof.Rows L2
set_option maxHeartbeats 8000000 in
theorem enum_make {v : Value} {o : Obj} {Hv : Heap → Prop} (B : Begins v o Hv) :
    Meets (Builtin.«enumerate.__new__» ⟨[.type "enumerate", v], []⟩) (fun _ R s => Hv s.heap ∧
      R (.ok (.ret (.ref (s.heap.push o).objs.size)))
        { s with heap := (s.heap.push o).push { cls := .type "enumerate", data := .fields #[.none, .bool false, .ref s.heap.objs.size, rawInt 0, .none, .none] } }) :=
  Meets.of_wp fun prog w A R s hs => by
    obtain ⟨hp, g, d, tk, os⟩ := s
    obtain ⟨hv, hr⟩ := hs
    have hsub := sub_enumerate
    have go : ∀ {A' : Around} {E : Value → Shared → Prop} {Q : Value → Shared → Prop}, Q (.ref hp.objs.size) ⟨hp.push o, g, d, tk, os⟩ → wpAny (model prog w) A' (pyIter v) Q E ⟨hp, g, d, tk, os⟩ :=
      fun q => B.iter prog w _ _ ⟨hp, g, d, tk, os⟩ _ hv q
    wp_walk using go
    refine wpAny_stack_any fun st => ?_
    refine wpAny_pure ?_
    split
    · rename_i c _ _ _ _ _
      cases (c == Value.type "enumerate") <;> (wp_walk using go; exact ⟨_, rfl, hr⟩)
    · wp_walk using go
      exact ⟨_, rfl, hr⟩
section
variable {prog : Program} {w : World} {A : Around} {E : Value → Shared → Prop} {s : Shared}
theorem enum_call {v : Value} {o : Obj} {Hv : Heap → Prop} {Q : Value → Shared → Prop} (B : Begins v o Hv) (hv : Hv s.heap)
    (h : ∀ h', IsEnum h' (s.heap.objs.size + 1) s.heap.objs.size 0 .none → h'.get? s.heap.objs.size = some o →
      (∀ b u, s.heap.get? b = some u → h'.get? b = some u) → Q (.ref (s.heap.objs.size + 1)) { s with heap := h' }) :
    wpAny (model prog w) A (call (.type "enumerate") [v]) Q E s := by
  have sz : (s.heap.push o).objs.size = s.heap.objs.size + 1 := Heap.size_push ..
  have e2 : ((s.heap.push o).push { cls := .type "enumerate", data := .fields #[.none, .bool false, .ref s.heap.objs.size, rawInt 0, .none, .none] }).get? (s.heap.objs.size + 1) =
      some { cls := .type "enumerate", data := .fields #[.none, .bool false, .ref s.heap.objs.size, rawInt 0, .none, .none] } := by
    rw [← sz]
    exact Heap.get?_push_size _ rfl
  refine callType_new F.called_enumerate (by decide) (F.typeCall_enumerate_1 _) (F.newCall_enumerate_1 _) (fun obj => F.args_object_init_2 obj _) F.entry_enumerate_new (enum_make B) ⟨hv, ?_⟩
  show _ ∧ _
  rw [sz]
  exact ⟨⟨_, e2, rfl⟩, h _ e2 (Heap.get?_push_of_some _ (Heap.get?_push_size _ B.free)) fun b u x => Heap.get?_push_of_some _ (Heap.get?_push_of_some _ x)⟩
end
/-- the tuple at a as it stands, each item in a new pair behind its number -/
def ItE (K : PySem.W.Frag) (a : Addr) : It :=
  ⟨fun i H => ∃ (xs : List V) (x : V), SqT K H a xs ∧ xs[i]? = some x,
    fun i H v H' => ∃ (T : Addr) (x : V), v = .ref T ∧ H T = none ∧ H' = upd H T (.tup [.int (i : Nat), x]) ∧ ∀ xs, SqT K H a xs → xs[i]? = some x,
    fun i H => ∃ xs : List V, SqT K H a xs ∧ xs.length = i⟩
theorem apart {h : Heap} {a b : Addr} {o : Obj} {c : Value} (ht : h.get? a = some o) (h1 : o.cls = .type "tuple") {u : Obj} (hu : h.get? b = some u) (h2 : u.cls = c) (d : c ≠ .type "tuple") : a ≠ b := fun z => by
  rw [z, hu] at ht
  cases ht
  exact d (h2.symm.trans h1)
theorem turn_enumT {P : Program} {w : World} {K : PySem.W.Frag} {elts : List Expr} {kk : Nat} {tpos : Pos} (a e it : Addr) :
    Turn P w K (.Tuple elts kk tpos) (ItE K a) [e, it] e (fun i h => (∃ old, IsEnum h e it ((i : Nat) : Int) old) ∧ h.IsTupleIter it a i ∧ e ≠ it) where
  mem := List.mem_cons_self
  obj := fun i h st b hb => by
    obtain ⟨⟨old, he⟩, ⟨o, ho, _, hd⟩, _⟩ := st
    rcases List.mem_cons.mp hb with z | z
    · rw [z]
      exact ⟨_, he, fun v q => nomatch q⟩
    · rw [List.mem_singleton.mp z]
      exact ⟨o, ho, fun v q => by
        rw [hd] at q
        cases q⟩
  keep := fun i h h' st k => by
    obtain ⟨⟨old, he⟩, hi, hne⟩ := st
    exact ⟨⟨old, k e (by simp) _ he⟩, hi.at fun o q => k it (by simp) o q, hne⟩
  item := by
    intro X hP hw hK hc i pins s σ H E I hf st hg
    subst hP hw hK
    obtain ⟨⟨old, he⟩, hit, hne⟩ := st
    obtain ⟨xs, x, hq, hx⟩ := hg
    obtain ⟨its, rv, ht, hz⟩ := I.tuple hq
    obtain ⟨u, hu, ru⟩ := rv.get hx
    obtain ⟨ot, hot, hct, nt, hdt⟩ := id ht
    obtain ⟨oi, hoi, hci, hdi⟩ := id hit
    have ai : a ≠ it := apart hot hct hoi hci (by decide)
    have ae : a ≠ e := apart (c := .type "enumerate") hot hct he rfl (by decide)
    have hel : e < s.heap.objs.size := Heap.lt_size he
    have hil : it < s.heap.objs.size := Heap.lt_size hoi
    have hlt : i < its.toArray.size := by
      rw [List.size_toArray]
      exact (List.getElem?_eq_some_iff.mp hu).1
    have D := Draws.tuple (prog := X.prog) (w := X.w) (A := X.A.in1) (show X.A.in1.handled = none from I.ok.hd hc) it a ai its.toArray
    refine wpAny_pyNext_enum_itemC D he ⟨hit, ht⟩ hlt hne (by simp [hne, Ne.symm ae]) fun y h' tk hy ho st' hT hsz hk => ?_
    have ey : y = u := by
      have z : its.toArray[i]? = some u := by simpa using hu
      exact Option.some.inj (hy.symm.trans z)
    subst ey
    refine ⟨_, rfl, wpAny_letOwnedTupleGo_enum (s := { s with heap := h', toks := tk + 1 }) ho fun h'' he' sb => ?_⟩
    have hT2 : h''.get? s.heap.objs.size = some { cls := .type "tuple", data := .seq #[.int i tk, y] } := (sb.2 _ (Nat.ne_of_gt hel)).trans hT
    have new : ObjOk X.prog X.w (upd H s.heap.objs.size (.tup [.int (i : Nat), x])) h'' s.heap.objs.size (.tup [.int (i : Nat), x]) :=
      ⟨by show 2 ≤ sizeLine; decide, [.int i tk, y], .cons ⟨_, rfl⟩ (.cons ru .nil), ⟨_, hT2, rfl, _, rfl⟩⟩
    have nm : ∀ {b : Addr}, b ∉ [e, it] → b ≠ e ∧ b ≠ it := fun {b} hb => ⟨fun z => hb (by simp [z]), fun z => hb (by simp [z])⟩
    have I1 : Inv X pins σ (upd H s.heap.objs.size (.tup [.int (i : Nat), x])) { s with heap := h'', toks := tk + 1 } :=
      I.turnedNew (ch := [e, it]) (fun b ob hb q => (sb.2 b (nm hb).1).trans (hk b ob (nm hb).1 (nm hb).2 q)) hf (Nat.le_refl _) new
    refine ⟨.ref s.heap.objs.size, _, I1, rfl, ⟨_, x, rfl, I.hok.fresh (Nat.le_refl _), rfl, fun ys hy2 => by rw [I.tuple_inj hy2 hq]; exact hx⟩,
      ⟨⟨y, ?_⟩, st'.1.at fun o q => (sb.2 it (Ne.symm hne)).trans q, hne⟩, fun b hb => ?_⟩
    · have e1 : ((i + 1 : Nat) : Int) = (i : Int) + 1 := by omega
      rw [e1]
      exact he'
    · have hb' : b < s.heap.objs.size := by
        rcases List.mem_cons.mp hb with z | z
        · rw [z]; exact hel
        · rw [List.mem_singleton.mp z]; exact hil
      rw [upd_ne (Nat.ne_of_lt hb')]
      exact (hf b hb).1
  done := by
    intro X hP hw hK hc i pins s σ H E I hf st hg
    subst hP hw hK
    obtain ⟨⟨old, he⟩, hit, hne⟩ := st
    obtain ⟨xs, hq, rfl⟩ := hg
    obtain ⟨its, rv, ht, hz⟩ := I.tuple hq
    obtain ⟨ot, hot, hct, nt, hdt⟩ := id ht
    obtain ⟨oi, hoi, hci, hdi⟩ := id hit
    have ai : a ≠ it := apart hot hct hoi hci (by decide)
    obtain ⟨f0, f1, f2, f3, f4, f5⟩ := hf it (by simp)
    have D := Draws.tuple (prog := X.prog) (w := X.w) (A := X.A.in1) (show X.A.in1.handled = none from I.ok.hd hc) it a ai its.toArray
    have hl : its.toArray.size = xs.length := by rw [List.size_toArray]; exact rv.length.symm
    exact wpAny_pyNext_enum_endD D he (by rw [hl]; exact ⟨hit, ht⟩) fun h' eb => ⟨rfl, I.turned (t' := s.toks) (fun b o hb q => eb b o hb q) f0 f1 f3 f4 f5⟩
  self := fun A i s Q E st h => by
    obtain ⟨⟨_, he⟩, _⟩ := st
    exact wpAny_pyIter_enum he h
def iEnT (K : PySem.W.Frag) (ta : TA) : TI := fun σ H R => ta σ H fun vs H1 => ∃ (a : Addr) (xs : List V), vs = [.ref a] ∧ SqT K H1 a xs ∧ R (ItE K a) H1
theorem pi_enumT {X : Cx} {e : Expr} {ta : TA} {p pos tpos : Pos} {elts : List Expr} {kk : Nat} (hg : Gl X "enumerate") (hm : X.mg "enumerate" = none) (ha : PA X [e] ta) (hs : starEach [e] X.env = [(false, eval e X.env)] := by rfl) :
    PI X (.Tuple elts kk tpos) (.Call (.Name "enumerate" p) [e] [] pos) (iEnT X.K ta) := by
  refine ⟨fun pins s σ H R I h => ?_⟩
  refine Call_ (ld_blt I hg hm boot_enumerate (PyProof.Rows.callWith_type1 (thn (ha.run pos pins s σ H _ I h) fun us s1 hu => ?_) hs rfl))
  obtain ⟨vs, H1, I1, r1, a, xs, rfl, hq, q⟩ := hu
  obtain ⟨u, rfl, ru⟩ := vals1 r1
  obtain rfl : u = Value.ref a := ru
  obtain ⟨its, rv, ht, hz⟩ := I1.tuple hq
  refine enum_call (begins_tuple a its.toArray) ht fun h' he hit hk => wpAny_pyIter_enum he ?_
  have I2 : Inv X pins σ H1 { s1 with heap := h' } := I1.kept (t' := s1.toks) hk
  refine ⟨s1.heap.objs.size + 1, [s1.heap.objs.size + 1, s1.heap.objs.size], _, _, H1, rfl, I2, turn_enumT a (s1.heap.objs.size + 1) s1.heap.objs.size, ⟨⟨.none, he⟩, ⟨_, hit, rfl, rfl⟩, Nat.succ_ne_self _⟩, fun b hb => ?_, q⟩
  have hle : s1.heap.objs.size ≤ b := by
    rcases List.mem_cons.mp hb with z | z
    · rw [z]; exact Nat.le_succ _
    · rw [List.mem_singleton.mp z]; exact Nat.le_refl _
  exact I1.fpOk hle (I1.hok.fresh hle)
end Gf
set_option Elab.async false
set_option linter.all false
set_option maxRecDepth 100000
set_option maxHeartbeats 4000000
namespace Gf
open PySem PySem.Spec PyProof.Rows L2
/-- what places_of makes -/
def PlA (K : PySem.W.Frag) (H : Hp) : List ES → List (Key × V) → Prop
  | [], kv => kv = []
  | e :: l, kv => ∃ (t : Addr) (rest : List (Key × V)), kv = (.inl e.m, .ref t) :: rest ∧ SqT K H t [.str e.w, .int e.p, .int e.b] ∧ PlA K H l rest
section
variable {P : Program} {w : World} {K : PySem.W.Frag} {mg : Str → Option Value} {base : Heap} {lt mt : Tok} {H H' : Hp}
theorem PlA.mono (h : Kp K H H') : ∀ {l : List ES} {kv : List (Key × V)}, PlA K H l kv → PlA K H' l kv
  | [], _, q => q
  | _ :: _, _, ⟨t, rest, e, h1, h2⟩ => ⟨t, rest, e, h.t _ _ h1, PlA.mono h h2⟩
theorem PlA.len : ∀ {l : List ES} {kv : List (Key × V)}, PlA K H l kv → kv.length = l.length
  | [], _, q => by rw [show _ = [] from q]; rfl
  | _ :: _, _, ⟨t, rest, e, h1, h2⟩ => by rw [e, List.length_cons, List.length_cons, PlA.len h2]
theorem PlA.none : ∀ {l : List ES} {kv : List (Key × V)} {q : Int}, PlA K H l kv → q ∉ l.map (·.m) → valV kv (Sum.inl q) = none
  | [], _, _, z, _ => by rw [show _ = [] from z]; rfl
  | e :: l, _, q, ⟨t, rest, ee, h1, h2⟩, hq => by
    rw [ee, valV_neg (by intro z; exact hq (List.mem_cons.mpr (.inl (Sum.inl.inj z).symm)))]
    exact PlA.none h2 fun z => hq (List.mem_cons_of_mem _ z)
theorem PlA.some : ∀ {l : List ES} {kv : List (Key × V)} {e : ES}, PlA K H l kv → (l.map (·.m)).Nodup → e ∈ l → ∃ t, valV kv (Sum.inl e.m) = some (.ref t) ∧ SqT K H t [.str e.w, .int e.p, .int e.b]
  | [], _, _, _, _, h => by cases h
  | a :: l, _, e, ⟨t, rest, ee, h1, h2⟩, hn, h => by
    rw [List.map_cons, List.nodup_cons] at hn
    rcases List.mem_cons.mp h with z | z
    · subst z
      rw [ee, valV_pos rfl]
      exact ⟨t, rfl, h1⟩
    · rw [ee, valV_neg (by intro y; exact hn.1 (List.mem_map.mpr ⟨e, z, (Sum.inl.inj y).symm⟩))]
      exact PlA.some h2 hn.2 z
theorem PlA.snoc {e : ES} {t : Addr} (ht : SqT K H t [.str e.w, .int e.p, .int e.b]) : ∀ {l : List ES} {kv : List (Key × V)}, PlA K H l kv → PlA K H (l ++ [e]) (kv ++ [(.inl e.m, .ref t)])
  | [], _, q => by
    rw [show _ = [] from q]
    exact ⟨t, [], rfl, ht, rfl⟩
  | _ :: _, _, ⟨t', rest, e', h1, h2⟩ => by
    rw [e']
    exact ⟨t', _, rfl, h1, PlA.snoc ht h2⟩
theorem PlA.isSome {f : FS} {kv : List (Key × V)} (h : PlA K H (ents f 0 0) kv) (hn : (marks f).Nodup) (q : Int) : (valV kv (Sum.inl q)).isSome = decide (q ∈ marks f) := by
  by_cases c : q ∈ marks f
  · obtain ⟨e, h1, h2, rfl⟩ := findE_mem c
    obtain ⟨t, z, _⟩ := h.some (by rw [ents_marks]; exact hn) h2
    rw [z, decide_eq_true c]
    rfl
  · rw [h.none (by rw [ents_marks]; exact c), decide_eq_false c]
    rfl
theorem sc_places_of : FnScope ["t", "mark", "word", "_", "parent", "behind"] ["t"] (defScope s_places_of) := ⟨rfl, rfl, rfl, by decide +kernel, rfl, by decide +kernel, by decide +kernel⟩
def sp_places (K : PySem.W.Frag) (n : Nat) : Sp := fun vs H Q _ => ∃ (a : Addr) (f : FS), vs = [.ref a] ∧ FoA K H f a ∧ (marks f).length ≤ 1000 ∧ depth f < n ∧ (marks f).Nodup ∧
  ∀ H' d kv, Same H H' → H' d = some (.dK kv) → PlA K H' (ents f 0 0) kv → Q (.ref d) H'
theorem ok_places_of {n : Nat} (D : Df K mg "places_of" s_places_of ["t"]) (G_spots_of : Pr P w K mg base CX0 (n + 2) "spots_of" ["t"] (sp_spots K n)) :
    Pr P w K mg base CX0 (n + 3) "places_of" ["t"] (sp_places K n) := by
  refine D.ok sc_places_of (fun vs H Q E h => ?_) (fun fa cdv A outer s H vs Q E hr h => ?_)
  · obtain ⟨a, f, rfl, _⟩ := h; rfl
  obtain ⟨a, f, rfl, hf, hlen, hd, hn, q⟩ := h
  refine ⟨_, (pss_one (ps_ret (pe_dc (own := [("mark", 1), ("word", 2), ("_", 3), ("parent", 4), ("behind", 5)]) (g := gTup K 5 (gCons (gName 1) (gCons (gName 2) (gCons (gName 3) (gCons (gName 4) (gCons (gName 5) gNil)))))) (tt := tYes) (tk := tVar 1) (tv := tTup (tCons (tVar 2) (tCons (tVar 4) (tCons (tVar 5) tNil)))) rfl sc_places_of.nd (pi_list (pe_own G_spots_of (hr.mono (by first | decide | omega)) (by rfl) pass0 (pa_cons (pv 0) pa_nil))) (blkOk_by (N := ["t", "mark", "word", "_", "parent", "behind"]) (sc := defScope s_places_of) (by decide +kernel)) (fun _ _ _ _ _ => (pg_tup rfl (pgs_cons (pg_name (i := 1) sc_places_of.nd rfl (Or.inl rfl)) (pgs_cons (pg_name (i := 2) sc_places_of.nd rfl (Or.inl rfl)) (pgs_cons (pg_name (i := 3) sc_places_of.nd rfl (Or.inl rfl)) (pgs_cons (pg_name (i := 4) sc_places_of.nd rfl (Or.inl rfl)) (pgs_cons (pg_name (i := 5) sc_places_of.nd rfl (Or.inl rfl)) pgs_nil))))))) (fun _ _ _ _ _ => pts_nil) (fun _ _ _ _ _ => (pv 1)) (fun _ _ _ _ _ => (pe_tup (pa_cons (pv 2) (pa_cons (pv 4) (pa_cons (pv 5) pa_nil)))))))), ?_⟩
  refine ⟨_, rfl, a, f, rfl, hf, hlen, hd, fun H1 r es sm1 nr hr1 hE => ?_⟩
  refine ⟨r, rfl, ⟨_, .inl (.inl hr1)⟩, fun d nd => ?_⟩
  have hel := hE.len
  rw [ents_len] at hel
  have hnr : (ents f 0 0).map (·.m) = marks f := ents_marks f 0 0
  refine dc_gen (n := es.length) (fun i H' => ∃ (l1 l2 : List ES) (kv : List (Key × V)), l1 ++ l2 = ents f 0 0 ∧ l1.length = i ∧ EnA K H' l2 (es.drop i) ∧ H' d = some (.dK kv) ∧ PlA K H' l1 kv ∧ Same H1 H')
    ⟨[], _, [], rfl, rfl, hE.mono (same_upd nd).kp, upd_same, rfl, same_upd nd⟩ (fun i H' hi hp => ?_) (fun H' hp => ?_) (fun i x H2 H3 hi hp y => ?_) (fun H' hp => ?_)
  · obtain ⟨l1, l2, kv, _, _, _, _, _, sm⟩ := hp
    exact ⟨es, es[i], .inl (.inl (sm _ _ hr1)), List.getElem?_eq_getElem hi⟩
  · obtain ⟨l1, l2, kv, _, _, _, _, _, sm⟩ := hp
    exact ⟨es, .inl (.inl (sm _ _ hr1)), Nat.le_refl _⟩
  · obtain ⟨l1, l2, kv, hl, hi1, hE2, hd2, hP, sm⟩ := hp
    obtain ⟨rfl, y⟩ := y
    have hx := y es (.inl (.inl (sm _ _ hr1)))
    rw [drop_at hx] at hE2
    cases l2 with
    | nil => cases hE2
    | cons e l2 =>
      obtain ⟨t, qa, rest, ee, h1, h2, h3⟩ := hE2
      obtain ⟨rfl, rfl⟩ := List.cons.inj ee
      have ne : e.m ∉ l1.map (·.m) := fun z => by
        have hz := hn
        rw [← hnr, ← hl, List.map_append, List.map_cons] at hz
        exact (List.nodup_append.mp hz).2.2 _ z _ List.mem_cons_self rfl
      rw [show wipe _ _ = [some (V.ref a), none, none, none, none, none] from rfl]
      refine ⟨t, _, rfl, h1, rfl, ?_⟩
      refine ⟨_, _, rfl, ?_⟩
      refine ⟨_, _, rfl, ?_⟩
      refine ⟨_, _, rfl, ?_⟩
      refine ⟨_, _, rfl, ?_⟩
      refine ⟨_, _, rfl, ?_⟩
      refine ⟨rfl, ?_⟩
      refine ⟨rfl, ?_⟩
      refine ⟨_, rfl, _, rfl, _, rfl, _, rfl, (by show 3 ≤ sizeLine; decide), fun t2 nt => ?_⟩
      have sT : Same H3 (upd H3 t2 (.tup [.str e.w, .int e.p, .int e.b])) := same_upd nt
      have hkl := hP.len
      have hll : l1.length + (e :: l2).length = (marks f).length := by rw [← List.length_append, hl, ents_len]
      refine ⟨kv, .inl e.m, rfl, sT _ _ hd2, fin_le (by rw [List.length_cons] at hll; omega), ?_⟩
      have kp : Kp K (upd H3 t2 (.tup [.str e.w, .int e.p, .int e.b])) (upd (upd H3 t2 (.tup [.str e.w, .int e.p, .int e.b])) d (.dK (putK kv (.inl e.m) (.ref t2)))) := Kp.dK (sT _ _ hd2)
      refine ⟨l1 ++ [e], l2, kv ++ [(.inl e.m, .ref t2)], by rw [← hl, List.append_assoc]; rfl, by rw [List.length_append, hi1]; rfl, h3.mono (sT.kp.trans kp), ?_, ?_, (sm.trans sT).over nd⟩
      · rw [upd_same, putK_new _ (hP.none ne)]
      · exact (hP.mono (sT.kp.trans kp)).snoc (kp.t _ _ (.inl (.inl upd_same)))
  · obtain ⟨l1, l2, kv, hl, hi1, hE2, hd2, hP, sm⟩ := hp
    rw [drop_end] at hE2
    cases l2 with
    | nil =>
      rw [List.append_nil] at hl
      rw [hl] at hP
      exact q H' d kv (sm1.trans sm) hd2 hP
    | cons e l2 =>
      obtain ⟨t, qa, rest, ee, _⟩ := hE2
      cases ee
end
end Gf
set_option Elab.async false
set_option linter.all false
set_option maxRecDepth 100000
set_option maxHeartbeats 4000000
namespace Gf
open PySem PySem.Spec PyProof.Rows L2
section
variable {P : Program} {w : World} {K : PySem.W.Frag} {mg : Str → Option Value} {base : Heap} {lt mt : Tok} {H H' : Hp}
theorem find_split {f : FS} {l1 l2 : List ES} {e : ES} {q : Int} (h : l1 ++ e :: l2 = ents f 0 0) (hn : ∀ x ∈ l1, x.m ≠ q) (he : e.m = q) : findE f q = some e := by
  unfold findE
  rw [← h, List.find?_append]
  have z : l1.find? (fun x => decide (x.m = q)) = none := List.find?_eq_none.mpr fun x hx => by simpa using hn x hx
  rw [z, List.find?_cons, decide_eq_true he]
  rfl
theorem find_no {f : FS} {q : Int} (hn : ∀ x ∈ ents f 0 0, x.m ≠ q) : findE f q = none :=
  List.find?_eq_none.mpr fun x hx => by simpa using hn x hx
theorem sc_row_at : FnScope ["t", "parent", "mark", "_", "children"] ["t", "parent"] (defScope s_row_at) := ⟨rfl, rfl, rfl, by decide +kernel, rfl, by decide +kernel, by decide +kernel⟩
def sp_row (K : PySem.W.Frag) (n : Nat) : Sp := fun vs H Q _ => ∃ (a : Addr) (f : FS) (p : Int), vs = [.ref a, .int p] ∧ FoA K H f a ∧ (marks f).length ≤ 1000 ∧ depth f < n ∧
  ∀ H' b, Same H H' → FoA K H' (rowAt f p) b → Q (.ref b) H'
theorem ok_row_at {n : Nat} (D : Df K mg "row_at" s_row_at ["t", "parent"]) (G_spots_of : Pr P w K mg base CX0 (n + 2) "spots_of" ["t"] (sp_spots K n)) :
    Pr P w K mg base CX0 (n + 3) "row_at" ["t", "parent"] (sp_row K n) := by
  refine D.ok sc_row_at (fun vs H Q E h => ?_) (fun fa cdv A outer s H vs Q E hr h => ?_)
  · obtain ⟨a, f, p, rfl, _⟩ := h; rfl
  obtain ⟨a, f, p, rfl, hf, hlen, hd, q⟩ := h
  refine ⟨_, (pss_cons (ps_if (pt_cmpR op_eq (pv 1) pe_int (nomark _)) (pss_one (ps_ret (pv 0))) pss_nil)
    (pss_cons (ps_for PassesOwn.never rfl (pi_list (pe_own G_spots_of (hr.mono (by first | decide | omega)) (by rfl) pass0 (pa_cons (pv 0) pa_nil))) (pg_tup rfl (pgs_cons (pg_name (i := 2) sc_row_at.nd rfl (Or.inl rfl)) (pgs_cons (pg_name (i := 3) sc_row_at.nd rfl (Or.inl rfl)) (pgs_cons (pg_name (i := 4) sc_row_at.nd rfl (Or.inl rfl)) (pgs_cons (pg_name (i := 3) sc_row_at.nd rfl (Or.inl rfl)) (pgs_cons (pg_name (i := 3) sc_row_at.nd rfl (Or.inl rfl)) pgs_nil)))))) (pss_one (ps_if (pt_cmpR op_eq (pv 2) (pv 1) (nomark _)) (pss_one (ps_ret (pv 4))) pss_nil)))
    (pss_one (ps_ret (pe_tup pa_nil))))), ?_⟩
  refine ⟨_, rfl, rfl, _, rfl, ite2 (fun c => ?_) (fun c => ?_)⟩
  · have c' : p = 0 := V.int.inj (of_decide_eq_true c)
    refine ⟨_, rfl, q H a (Same.refl H) ?_⟩
    unfold rowAt
    rw [if_pos c']
    exact hf
  · have c' : ¬ p = 0 := fun z => c (decide_eq_true (by rw [z]))
    refine ⟨_, rfl, a, f, rfl, hf, hlen, hd, fun H1 r es sm1 nr hr1 hE => ?_⟩
    refine ⟨r, rfl, ⟨_, .inl (.inl hr1)⟩, for_list (K := K) (a := r) (xs := es) (fun i σ H' => ∃ (l1 l2 : List ES) (s2 s3 s4 : Option V), σ = [some (.ref a), some (.int p), s2, s3, s4] ∧ l1 ++ l2 = ents f 0 0 ∧ EnA K H1 l2 (es.drop i) ∧ H' = H1 ∧ ∀ x ∈ l1, x.m ≠ p)
      ⟨[], _, none, none, none, rfl, rfl, hE, rfl, fun x hx => by cases hx⟩ (fun i σ H' _ hp => ?_) (fun i x σ H' hx hp => ?_) (fun σ H' hp => ?_)⟩
    · obtain ⟨l1, l2, s2, s3, s4, _, _, _, rfl, _⟩ := hp
      exact .inl (.inl hr1)
    · obtain ⟨l1, l2, s2, s3, s4, rfl, hl, hE2, rfl, hne⟩ := hp
      rw [drop_at hx] at hE2
      cases l2 with
      | nil => cases hE2
      | cons e l2 =>
        obtain ⟨t, qa, rest, ee, h1, h2, h3⟩ := hE2
        obtain ⟨rfl, rfl⟩ := List.cons.inj ee
        refine ⟨t, _, rfl, h1, rfl, _, _, rfl, _, _, rfl, _, _, rfl, _, _, rfl, _, _, rfl, rfl, ?_⟩
        refine ⟨_, rfl, _, rfl, rfl, _, rfl, ite2 (fun c2 => ?_) (fun c2 => ?_)⟩
        · have c3 : e.m = p := V.int.inj (of_decide_eq_true c2)
          refine ⟨_, rfl, q H' qa sm1 ?_⟩
          unfold rowAt
          rw [if_neg c', find_split hl hne c3]
          exact h2
        · have c3 : ¬ e.m = p := fun z => c2 (decide_eq_true (by rw [z]))
          refine ⟨l1 ++ [e], l2, _, _, _, rfl, by rw [← hl, List.append_assoc]; rfl, h3, rfl, fun x hx => ?_⟩
          rcases List.mem_append.mp hx with z | z
          · exact hne x z
          · rw [List.mem_singleton.mp z]; exact c3
    · obtain ⟨l1, l2, s2, s3, s4, rfl, hl, hE2, rfl, hne⟩ := hp
      rw [drop_end] at hE2
      refine ⟨(by show 0 ≤ sizeLine; exact Nat.zero_le _), fun t nt => q _ t (sm1.trans (same_upd nt)) ?_⟩
      cases l2 with
      | nil =>
        rw [List.append_nil] at hl
        unfold rowAt
        rw [if_neg c', find_no (by rw [← hl]; exact hne)]
        exact ⟨[], .inl (.inl upd_same), rfl⟩
      | cons e l2 =>
        obtain ⟨t, qa, rest, ee, _⟩ := hE2
        cases ee
theorem sc_spot_with : FnScope ["t", "m", "mark", "word", "children", "_"] ["t", "m"] (defScope s_spot_with) := ⟨rfl, rfl, rfl, by decide +kernel, rfl, by decide +kernel, by decide +kernel⟩
def sp_spot (K : PySem.W.Frag) (n : Nat) : Sp := fun vs H Q _ => ∃ (a : Addr) (f : FS) (e : ES), vs = [.ref a, .int e.m] ∧ FoA K H f a ∧ (marks f).length ≤ 1000 ∧ depth f < n ∧ findE f e.m = some e ∧
  ∀ H' s q, Same H H' → SqT K H' s [.int e.m, .str e.w, .ref q] → FoA K H' e.k q → Q (.ref s) H'
theorem ok_spot_with {n : Nat} (D : Df K mg "spot_with" s_spot_with ["t", "m"]) (G_spots_of : Pr P w K mg base CX0 (n + 2) "spots_of" ["t"] (sp_spots K n)) :
    Pr P w K mg base CX0 (n + 3) "spot_with" ["t", "m"] (sp_spot K n) := by
  refine D.ok sc_spot_with (fun vs H Q E h => ?_) (fun fa cdv A outer s H vs Q E hr h => ?_)
  · obtain ⟨a, f, e, rfl, _⟩ := h; rfl
  obtain ⟨a, f, e0, rfl, hf, hlen, hd, h0, q⟩ := h
  refine ⟨_, (pss_cons (ps_for PassesOwn.never rfl (pi_list (pe_own G_spots_of (hr.mono (by first | decide | omega)) (by rfl) pass0 (pa_cons (pv 0) pa_nil))) (pg_tup rfl (pgs_cons (pg_name (i := 2) sc_spot_with.nd rfl (Or.inl rfl)) (pgs_cons (pg_name (i := 3) sc_spot_with.nd rfl (Or.inl rfl)) (pgs_cons (pg_name (i := 4) sc_spot_with.nd rfl (Or.inl rfl)) (pgs_cons (pg_name (i := 5) sc_spot_with.nd rfl (Or.inl rfl)) (pgs_cons (pg_name (i := 5) sc_spot_with.nd rfl (Or.inl rfl)) pgs_nil)))))) (pss_one (ps_if (pt_cmpR op_eq (pv 2) (pv 1) (nomark _)) (pss_one (ps_ret (pe_tup (pa_cons (pv 2) (pa_cons (pv 3) (pa_cons (pv 4) pa_nil)))))) pss_nil)))
    (pss_one (ps_ret pe_non))), ?_⟩
  refine ⟨_, rfl, a, f, rfl, hf, hlen, hd, fun H1 r es sm1 nr hr1 hE => ?_⟩
  refine ⟨r, rfl, ⟨_, .inl (.inl hr1)⟩, for_list (K := K) (a := r) (xs := es) (fun i σ H' => ∃ (l1 l2 : List ES) (s2 s3 s4 s5 : Option V), σ = [some (.ref a), some (.int e0.m), s2, s3, s4, s5] ∧ l1 ++ l2 = ents f 0 0 ∧ EnA K H1 l2 (es.drop i) ∧ H' = H1 ∧ ∀ x ∈ l1, x.m ≠ e0.m)
    ⟨[], _, none, none, none, none, rfl, rfl, hE, rfl, fun x hx => by cases hx⟩ (fun i σ H' _ hp => ?_) (fun i x σ H' hx hp => ?_) (fun σ H' hp => ?_)⟩
  · obtain ⟨l1, l2, s2, s3, s4, s5, _, _, _, rfl, _⟩ := hp
    exact .inl (.inl hr1)
  · obtain ⟨l1, l2, s2, s3, s4, s5, rfl, hl, hE2, rfl, hne⟩ := hp
    rw [drop_at hx] at hE2
    cases l2 with
    | nil => cases hE2
    | cons e l2 =>
      obtain ⟨t, qa, rest, ee, h1, h2, h3⟩ := hE2
      obtain ⟨rfl, rfl⟩ := List.cons.inj ee
      refine ⟨t, _, rfl, h1, rfl, _, _, rfl, _, _, rfl, _, _, rfl, _, _, rfl, _, _, rfl, rfl, ?_⟩
      refine ⟨_, rfl, _, rfl, rfl, _, rfl, ite2 (fun c2 => ?_) (fun c2 => ?_)⟩
      · have c3 : e.m = e0.m := V.int.inj (of_decide_eq_true c2)
        have z := find_split hl hne c3
        rw [h0] at z
        obtain rfl := Option.some.inj z
        refine ⟨_, rfl, _, rfl, _, rfl, (by show 3 ≤ sizeLine; decide), fun p np => q _ p qa (sm1.trans (same_upd np)) (.inl (.inl upd_same)) (h2.mono (same_upd np).kp)⟩
      · have c3 : ¬ e.m = e0.m := fun z => c2 (decide_eq_true (by rw [z]))
        refine ⟨l1 ++ [e], l2, _, _, _, _, rfl, by rw [← hl, List.append_assoc]; rfl, h3, rfl, fun x hx => ?_⟩
        rcases List.mem_append.mp hx with z | z
        · exact hne x z
        · rw [List.mem_singleton.mp z]; exact c3
  · obtain ⟨l1, l2, s2, s3, s4, s5, rfl, hl, hE2, rfl, hne⟩ := hp
    rw [drop_end] at hE2
    cases l2 with
    | nil =>
      rw [List.append_nil] at hl
      rw [find_no (by rw [← hl]; exact hne)] at h0
      cases h0
    | cons e l2 =>
      obtain ⟨t, qa, rest, ee, _⟩ := hE2
      cases ee
end
end Gf
set_option Elab.async false
set_option linter.all false
set_option maxRecDepth 100000
set_option maxHeartbeats 4000000
namespace Gf
open PySem PySem.Spec PyProof.Rows L2
section
variable {P : Program} {w : World} {K : PySem.W.Frag} {mg : Str → Option Value} {base : Heap} {lt mt : Tok} {H H' : Hp}
theorem ents_par : ∀ (f : FS) (p b : Int), ∀ e ∈ ents f p b, e.p = p ∨ e.p ∈ marks f
  | .nil, _, _, e, h => by simp [ents] at h
  | .cons m w k r, p, b, e, h => by
    have h' : e = ⟨m, w, k, p, b⟩ ∨ e ∈ ents k m 0 ∨ e ∈ ents r p m := by simpa [ents] using h
    have hm : marks (Fo.cons m w k r) = m :: (marks k ++ marks r) := rfl
    rcases h' with h' | h' | h'
    · subst h'
      exact .inl rfl
    · right
      rw [hm]
      rcases ents_par k m 0 e h' with z | z
      · rw [z]; exact List.mem_cons_self
      · exact List.mem_cons_of_mem _ (List.mem_append.mpr (.inl z))
    · rcases ents_par r p m e h' with z | z
      · exact .inl z
      · exact .inr (by rw [hm]; exact List.mem_cons_of_mem _ (List.mem_append.mpr (.inr z)))
theorem sc_is_inside : FnScope ["places", "parent", "m", "above"] ["places", "parent", "m"] (defScope s_is_inside) := ⟨rfl, rfl, rfl, by decide +kernel, rfl, by decide +kernel, by decide +kernel⟩
def sp_inside (K : PySem.W.Frag) : Sp := fun vs H Q _ => ∃ (d : Addr) (kv : List (Key × V)) (f : FS) (p m : Int) (l : List Int), vs = [.ref d, .int p, .int m] ∧ H d = some (.dK kv) ∧ PlA K H (ents f 0 0) kv ∧ (marks f).Nodup ∧ (0 : Int) ∉ marks f ∧
  (p = 0 ∨ p ∈ marks f) ∧ Chn (parF f) p l ∧ Q (.bl (decide (m ∈ l))) H
theorem ok_is_inside (D : Df K mg "is_inside" s_is_inside ["places", "parent", "m"]) : Pr P w K mg base CX0 1 "is_inside" ["places", "parent", "m"] (sp_inside K) := by
  refine D.ok sc_is_inside (fun vs H Q E h => ?_) (fun fa cdv A outer s H vs Q E hr h => ?_)
  · obtain ⟨d, kv, f, p, m, l, rfl, _⟩ := h; rfl
  obtain ⟨d, kv, f, p, m, l, rfl, hd, hP, hn, h0, hp, hc, q⟩ := h
  refine ⟨_, (pss_cons (ps_set (i := 3) sc_is_inside.nd rfl (Or.inl rfl) (pv 1))
    (pss_cons (ps_while PassesOwn.never (pt_cmpR op_ne (pv 3) pe_int (nomark _)) (pss_cons (ps_if (pt_cmpR op_eq (pv 3) (pv 2) (nomark _)) (pss_one (ps_ret pe_bl)) pss_nil)
    (pss_one (ps_set (i := 3) sc_is_inside.nd rfl (Or.inl rfl) (pe_ix ix_tup (pe_dget (hu_of hr) (pv 0) (pv 3) (fun _ _ => rfl)) pe_int (fun _ _ => rfl))))))
    (pss_one (ps_ret pe_bl)))), ?_⟩
  refine ⟨_, rfl, ?_⟩
  refine ⟨fun n σ H' => ∃ (x : Int) (l' : List Int), σ = [some (.ref d), some (.int p), some (.int m), some (.int x)] ∧ l'.length = n ∧ (x = 0 ∨ x ∈ marks f) ∧ Chn (parF f) x l' ∧ (m ∈ l ↔ m ∈ l') ∧ H' = H,
    ⟨l.length, p, l, rfl, rfl, hp, hc, Iff.rfl, rfl⟩, fun n σ H' hW => ?_⟩
  obtain ⟨x, l', rfl, hl, hx, hc', hi, rfl⟩ := hW
  refine ⟨_, rfl, rfl, _, rfl, ?_⟩
  cases l' with
  | nil =>
    have x0 : x = 0 := hc'
    subst x0
    refine itF (by rw [decide_eq_true rfl]; rfl) ?_
    have e : decide (m ∈ l) = false := decide_eq_false fun z => by
      have := hi.mp z
      cases this
    rw [e] at q
    exact q
  | cons y l' =>
    obtain ⟨rfl, x0, hc2⟩ := hc'
    refine itT (by rw [decide_eq_false (fun z => x0 (V.int.inj z))]; rfl) ?_
    refine ⟨fun σ' H2 => ∃ (x : Int) (l2 : List Int), σ' = [some (.ref d), some (.int p), some (.int m), some (.int x)] ∧ l2.length = l'.length ∧ (x = 0 ∨ x ∈ marks f) ∧ Chn (parF f) x l2 ∧ (m ∈ l ↔ m ∈ l2) ∧ H2 = H',
      fun σ' H2 hN => ⟨l'.length, by rw [← hl]; exact Nat.lt_succ_self _, hN⟩, ?_⟩
    refine ⟨_, rfl, _, rfl, rfl, _, rfl, ite2 (fun c => ?_) (fun c => ?_)⟩
    · have c' : y = m := V.int.inj (of_decide_eq_true c)
      have e : decide (m ∈ l) = true := decide_eq_true (hi.mpr (by rw [c']; exact List.mem_cons_self))
      rw [e] at q
      exact q
    · have c' : ¬ y = m := fun z => c (decide_eq_true (by rw [z]))
      have hy : y ∈ marks f := hx.resolve_left x0
      obtain ⟨e, h1, h2, rfl⟩ := findE_mem hy
      obtain ⟨t, ht, hT⟩ := hP.some (by rw [ents_marks]; exact hn) h2
      refine ⟨_, rfl, _, rfl, d, .ref t, rfl, by rw [← ht]; exact DGet.k (k := Sum.inl e.m) hd, ?_⟩
      refine ⟨t, _, 1, .int e.p, rfl, rfl, hT, atI_nat (j := 1) rfl, ?_⟩
      rw [parF_of hn h2] at hc2
      refine ⟨e.p, l', rfl, rfl, ?_, hc2, ?_, rfl⟩
      · exact ents_par f 0 0 e h2
      · rw [hi]
        exact ⟨fun z => (List.mem_cons.mp z).resolve_left (fun y => c' y.symm), fun z => List.mem_cons_of_mem _ z⟩
end
end Gf
set_option Elab.async false
set_option linter.all false
set_option maxRecDepth 100000
set_option maxHeartbeats 4000000
namespace Gf
open PySem PySem.Spec PyProof.Rows L2
section
variable {P : Program} {w : World} {K : PySem.W.Frag} {mg : Str → Option Value} {base : Heap} {lt mt : Tok} {H H' : Hp}
/-- t[lo:hi], whatever object it is -/
theorem slA_any {a : Addr} {xs : List V} {lo hi : Option Int} {Q : VK} (hx : SqT K H a xs) (q : ∀ H' p, Same H H' → SqT K H' p (cutV xs lo hi) → Q (.ref p) H') : rSlA K (.ref a) lo hi H Q := by
  refine ⟨a, xs, rfl, hx, fun h => q H a (Same.refl H) ?_, fun _ p np => q _ p (same_upd np) (.inl (.inl upd_same))⟩
  unfold cutV
  rw [h.1, h.2, List.drop_zero, Nat.sub_zero, List.take_length]
  exact hx
/-- t + u, whatever object it is -/
theorem catA_any {a b : Addr} {xs ys : List V} {Q : VK} (hx : SqT K H a xs) (hy : SqT K H b ys) (hl : xs.length + ys.length ≤ sizeLine) (q : ∀ H' p, Same H H' → SqT K H' p (xs ++ ys) → Q (.ref p) H') : rCatA K (.ref a) (.ref b) H Q := by
  refine ⟨a, b, xs, ys, rfl, rfl, hx, hy, hl, fun e => ?_, fun _ e => ?_, fun _ _ p np => q _ p (same_upd np) (.inl (.inl upd_same))⟩
  · refine q H b (Same.refl H) ?_
    rw [e]
    exact hy
  · refine q H a (Same.refl H) ?_
    rw [e, List.append_nil]
    exact hx
theorem cut_to {xs : List V} {n : Nat} : cutV xs none (some (n : Int)) = xs.take n := by
  unfold cutV
  rw [HT.sIx_none, HT.sIx_nat, List.drop_zero, Nat.sub_zero]
  by_cases h : n ≤ xs.length
  · rw [Nat.min_eq_left h]
  · rw [Nat.min_eq_right (by omega), List.take_length, List.take_of_length_le (by omega)]
theorem cut_from {xs : List V} {n : Nat} : cutV xs (some (n : Int)) none = xs.drop n := by
  unfold cutV
  rw [HT.sIx_none, HT.sIx_nat]
  by_cases h : n ≤ xs.length
  · rw [Nat.min_eq_left h]
    exact List.take_of_length_le (by rw [List.length_drop]; exact Nat.le_refl _)
  · rw [Nat.min_eq_right (by omega), Nat.sub_self, List.take_zero, List.drop_eq_nil_of_le (by omega)]
theorem ifV {c : Bool} {i j : Nat} {σ : L2.St} {Q : VK} {va vb : V} (hi : σ[i]? = some (some va)) (hj : σ[j]? = some (some vb)) (h : Q (if c = true then va else vb) H) : if c = true then tVar i σ H Q else tVar j σ H Q := by
  cases c with
  | true => exact ⟨va, hi, h⟩
  | false => exact ⟨vb, hj, h⟩
theorem marks_cons (m : Int) (w : Str) (k r : FS) : (marks (Fo.cons m w k r)).length = (marks k).length + (marks r).length + 1 := by
  show (m :: (marks k ++ marks r)).length = _
  rw [List.length_cons, List.length_append]
theorem depth_cons (m : Int) (w : Str) (k r : FS) : depth (Fo.cons m w k r) = max (depth k + 1) (depth r) := rfl
theorem sc_taken_out : FnScope ["t", "m", "made", "mark", "word", "children"] ["t", "m"] (defScope s_taken_out) := ⟨rfl, rfl, rfl, by decide +kernel, rfl, by decide +kernel, by decide +kernel⟩
def sp_taken (K : PySem.W.Frag) (n : Nat) : Sp := fun vs H Q _ => ∃ (a : Addr) (f : FS) (m : Int), vs = [.ref a, .int m] ∧ FoA K H f a ∧ (marks f).length ≤ 1000 ∧ depth f < n ∧
  ∀ H' b, Same H H' → FoA K H' (taken f m) b → Q (.ref b) H'
theorem ok_taken_out (D : Df K mg "taken_out" s_taken_out ["t", "m"]) (B : Bi mg) : ∀ n : Nat, Pr P w K mg base CX0 n "taken_out" ["t", "m"] (sp_taken K n)
  | 0 => D.none fun vs H Q E h => by
    obtain ⟨a, f, m, _, _, _, h, _⟩ := h
    exact absurd h (Nat.not_lt_zero _)
  | n + 1 => by
    have G_taken_out : Pr P w K mg base CX0 n "taken_out" ["t", "m"] (sp_taken K n) := ok_taken_out D B n
    refine D.ok sc_taken_out (fun vs H Q E h => ?_) (fun fa cdv A outer s H vs Q E hr h => ?_)
    · obtain ⟨a, f, m, rfl, _⟩ := h; rfl
    obtain ⟨a, f, m, rfl, ⟨ks, ha, hs⟩, hlen, hd, q⟩ := h
    refine ⟨_, (pss_cons (ps_set (i := 2) sc_taken_out.nd rfl (Or.inl rfl) (pe_lst pa_nil))
    (pss_cons (ps_for PassesOwn.never rfl (pi_tup (pv 0)) (pg_tup rfl (pgs_cons (pg_name (i := 3) sc_taken_out.nd rfl (Or.inl rfl)) (pgs_cons (pg_name (i := 4) sc_taken_out.nd rfl (Or.inl rfl)) (pgs_cons (pg_name (i := 5) sc_taken_out.nd rfl (Or.inl rfl)) pgs_nil)))) (pss_one (ps_if (pt_cmpR op_ne (pv 3) (pv 1) (nomark _)) (pss_one (ps_expr (pe_bm PySem.F.plainAttrs_list PySem.F.slot_list_append PySem.F.type_list_append mt_append (pv 2) (pa_cons (pe_tup (pa_cons (pv 3) (pa_cons (pv 4) (pa_cons (pe_own G_taken_out (hr.mono (by first | decide | omega)) (by rfl) pass0 (pa_cons (pv 5) (pa_cons (pv 1) pa_nil))) pa_nil)))) pa_nil)))) pss_nil)))
    (pss_one (ps_ret (pe_callTy call_tuple_of (by rfl) B.ttuple (by decide +kernel) (pa_cons (pv 2) pa_nil)))))), ?_⟩
    refine ⟨Nat.zero_le _, fun o no => ?_⟩
    have hks := hs.len
    refine ⟨.ref a, rfl, a, rfl, ⟨ks, (same_upd no).seqT ha⟩, for_tup (K := K) (a := a) (xs := ks) (fun i σ H' => ∃ (g : FS) (acc : List V) (s3 s4 s5 : Option V),
        σ = [some (.ref a), some (.int m), some (.ref o), s3, s4, s5] ∧ Same H H' ∧ H' o = some (.lst acc) ∧ acc.length ≤ i ∧ SpA K H g (ks.drop i) ∧ depth g < n + 1 ∧ (marks g).length ≤ 1000 ∧
        (∀ H'' es', Kp K H' H'' → SpA K H'' (taken g m) es' → SpA K H'' (taken f m) (acc ++ es')))
      ⟨f, [], none, none, none, rfl, same_upd no, upd_same, Nat.le_refl _, hs, hd, hlen, fun _ _ _ z => z⟩ (fun i σ H' _ hp => ?_) (fun i x σ H' hx hp => ?_) (fun σ H' hp => ?_)⟩
    · obtain ⟨g, acc, s3, s4, s5, _, sm, _⟩ := hp
      exact sm.seqT ha
    · obtain ⟨g, acc, s3, s4, s5, rfl, sm, ho, hal, hg, hdg, hml, hc⟩ := hp
      have hi := (List.getElem?_eq_some_iff.mp hx).1
      rw [drop_at hx] at hg
      cases g with
      | nil => cases hg
      | cons y w' k r =>
        obtain ⟨pa, qa, kk, rest, e, h1, h2, h3, h4⟩ := hg
        obtain ⟨rfl, rfl⟩ := List.cons.inj e
        have e1 := marks_cons y w' k r
        have e2 := depth_cons y w' k r
        refine ⟨pa, _, rfl, sm.seqT h1, rfl, _, _, rfl, _, _, rfl, _, _, rfl, rfl, ?_⟩
        refine ⟨_, rfl, _, rfl, rfl, _, rfl, ite2 (fun c => ?_) (fun c => ?_)⟩
        · have c' : ¬ y = m := fun z => by
            rw [z, decide_eq_true rfl] at c
            exact absurd c (by decide)
          refine ⟨_, rfl, .inl ⟨rfl, _, .inl (.inl ho)⟩, _, rfl, _, rfl, _, rfl, _, rfl, qa, k, m, rfl, ⟨kk, sm.seqT h2, h3.mono sm.kp⟩, by omega, by omega, fun H3 b sm3 hF => ?_⟩
          refine ⟨(by show 3 ≤ sizeLine; decide), fun t nt => ?_⟩
          have s4' : Same H3 (upd H3 t (.tup [.int y, .str w', .ref b])) := same_upd nt
          have ho3 := s4' _ _ (sm3 _ _ ho)
          refine ⟨o, acc, _, rfl, rfl, ho3, fin_le (by omega), ?_⟩
          have kp5 : Kp K (upd H3 t (.tup [.int y, .str w', .ref b])) (upd (upd H3 t (.tup [.int y, .str w', .ref b])) o (.lst (acc ++ [.ref t]))) := Kp.lst ho3
          refine ⟨r, acc ++ [.ref t], _, _, _, rfl, ((sm.trans sm3).trans s4').over no, upd_same, by rw [List.length_append, List.length_singleton]; omega, h4, by omega, by omega, fun H'' es' kp z => ?_⟩
          rw [List.append_assoc]
          have k3 : Kp K H3 H'' := (s4'.kp.trans kp5).trans kp
          obtain ⟨kv, hb1, hb2⟩ := hF
          refine hc H'' _ (sm3.kp.trans k3) ?_
          show SpA K H'' (if y = m then taken r m else .cons y w' (taken k m) (taken r m)) _
          rw [if_neg c']
          exact ⟨t, b, kv, es', rfl, (kp5.trans kp).t _ _ (.inl (.inl upd_same)), k3.t _ _ hb1, hb2.mono k3, z⟩
        · have c' : y = m := Classical.byContradiction fun z => c (by rw [decide_eq_false (fun q => z (V.int.inj q))]; rfl)
          refine ⟨r, acc, _, _, _, rfl, sm, ho, by omega, h4, by omega, by omega, fun H'' es' kp z => hc H'' es' kp ?_⟩
          show SpA K H'' (if y = m then taken r m else .cons y w' (taken k m) (taken r m)) _
          rw [if_pos c']
          exact z
    · obtain ⟨g, acc, s3, s4, s5, rfl, sm, ho, hal, hg, hdg, hml, hc⟩ := hp
      rw [drop_end] at hg
      refine ⟨_, rfl, o, acc, rfl, .inl ⟨.inl (.inl ho), fun l nl => q _ l (sm.trans (same_upd nl)) ⟨acc, .inl (.inl upd_same), ?_⟩⟩⟩
      cases g with
      | nil =>
        have z := hc (upd H' l (.tup acc)) [] (same_upd nl).kp rfl
        rw [List.append_nil] at z
        exact z
      | cons y w' k r =>
        obtain ⟨pa, qa, kk, rest, e, _⟩ := hg
        cases e
theorem sc_with_row : FnScope ["t", "parent", "row", "made", "mark", "word", "children"] ["t", "parent", "row"] (defScope s_with_row) := ⟨rfl, rfl, rfl, by decide +kernel, rfl, by decide +kernel, by decide +kernel⟩
def sp_wrow (K : PySem.W.Frag) (n : Nat) : Sp := fun vs H Q _ => ∃ (a b : Addr) (f nk : FS) (p : Int), vs = [.ref a, .int p, .ref b] ∧ FoA K H f a ∧ FoA K H nk b ∧ (marks f).length ≤ 1000 ∧ depth f < n ∧
  ∀ H' c, Same H H' → FoA K H' (withRow f p nk) c → Q (.ref c) H'
theorem ok_with_row (D : Df K mg "with_row" s_with_row ["t", "parent", "row"]) (B : Bi mg) : ∀ n : Nat, Pr P w K mg base CX0 n "with_row" ["t", "parent", "row"] (sp_wrow K n)
  | 0 => D.none fun vs H Q E h => by
    obtain ⟨a, b, f, nk, p, _, _, _, _, h, _⟩ := h
    exact absurd h (Nat.not_lt_zero _)
  | n + 1 => by
    have G_with_row : Pr P w K mg base CX0 n "with_row" ["t", "parent", "row"] (sp_wrow K n) := ok_with_row D B n
    refine D.ok sc_with_row (fun vs H Q E h => ?_) (fun fa cdv A outer s H vs Q E hr h => ?_)
    · obtain ⟨a, b, f, nk, p, rfl, _⟩ := h; rfl
    obtain ⟨a, b0, f, nk, p, rfl, ⟨ks, ha, hs⟩, hnk, hlen, hd, q⟩ := h
    refine ⟨_, (pss_cons (ps_if (pt_cmpR op_eq (pv 1) pe_int (nomark _)) (pss_one (ps_ret (pv 2))) pss_nil)
    (pss_cons (ps_set (i := 3) sc_with_row.nd rfl (Or.inl rfl) (pe_lst pa_nil))
    (pss_cons (ps_for PassesOwn.never rfl (pi_tup (pv 0)) (pg_tup rfl (pgs_cons (pg_name (i := 4) sc_with_row.nd rfl (Or.inl rfl)) (pgs_cons (pg_name (i := 5) sc_with_row.nd rfl (Or.inl rfl)) (pgs_cons (pg_name (i := 6) sc_with_row.nd rfl (Or.inl rfl)) pgs_nil)))) (pss_one (ps_if (pt_cmpR op_eq (pv 4) (pv 1) (nomark _)) (pss_one (ps_expr (pe_bm PySem.F.plainAttrs_list PySem.F.slot_list_append PySem.F.type_list_append mt_append (pv 3) (pa_cons (pe_tup (pa_cons (pv 4) (pa_cons (pv 5) (pa_cons (pv 2) pa_nil)))) pa_nil)))) (pss_one (ps_expr (pe_bm PySem.F.plainAttrs_list PySem.F.slot_list_append PySem.F.type_list_append mt_append (pv 3) (pa_cons (pe_tup (pa_cons (pv 4) (pa_cons (pv 5) (pa_cons (pe_own G_with_row (hr.mono (by first | decide | omega)) (by rfl) pass0 (pa_cons (pv 6) (pa_cons (pv 1) (pa_cons (pv 2) pa_nil)))) pa_nil)))) pa_nil)))))))
    (pss_one (ps_ret (pe_callTy call_tuple_of (by rfl) B.ttuple (by decide +kernel) (pa_cons (pv 3) pa_nil))))))), ?_⟩
    refine ⟨_, rfl, rfl, _, rfl, ite2 (fun c => ?_) (fun c => ?_)⟩
    · have c' : p = 0 := V.int.inj (of_decide_eq_true c)
      refine ⟨_, rfl, q H b0 (Same.refl H) ?_⟩
      unfold withRow
      rw [if_pos c']
      exact hnk
    have c0 : ¬ p = 0 := fun z => c (decide_eq_true (by rw [z]))
    have ew : ∀ g : FS, withRow g p nk = wr g p nk := fun g => by
      unfold withRow
      rw [if_neg c0]
    refine ⟨Nat.zero_le _, fun o no => ?_⟩
    have hks := hs.len
    refine ⟨.ref a, rfl, a, rfl, ⟨ks, (same_upd no).seqT ha⟩, for_tup (K := K) (a := a) (xs := ks) (fun i σ H' => ∃ (g : FS) (acc : List V) (s4 s5 s6 : Option V),
        σ = [some (.ref a), some (.int p), some (.ref b0), some (.ref o), s4, s5, s6] ∧ Same H H' ∧ H' o = some (.lst acc) ∧ acc.length ≤ i ∧ SpA K H g (ks.drop i) ∧ depth g < n + 1 ∧ (marks g).length ≤ 1000 ∧
        (∀ H'' es', Kp K H' H'' → SpA K H'' (wr g p nk) es' → SpA K H'' (wr f p nk) (acc ++ es')))
      ⟨f, [], none, none, none, rfl, same_upd no, upd_same, Nat.le_refl _, hs, hd, hlen, fun _ _ _ z => z⟩ (fun i σ H' _ hp => ?_) (fun i x σ H' hx hp => ?_) (fun σ H' hp => ?_)⟩
    · obtain ⟨g, acc, s4, s5, s6, _, sm, _⟩ := hp
      exact sm.seqT ha
    · obtain ⟨g, acc, s4, s5, s6, rfl, sm, ho, hal, hg, hdg, hml, hc⟩ := hp
      have hi := (List.getElem?_eq_some_iff.mp hx).1
      rw [drop_at hx] at hg
      cases g with
      | nil => cases hg
      | cons y w' k r =>
        obtain ⟨pa, qa, kk, rest, e, h1, h2, h3, h4⟩ := hg
        obtain ⟨rfl, rfl⟩ := List.cons.inj e
        have e1 := marks_cons y w' k r
        have e2 := depth_cons y w' k r
        refine ⟨pa, _, rfl, sm.seqT h1, rfl, _, _, rfl, _, _, rfl, _, _, rfl, rfl, ?_⟩
        refine ⟨_, rfl, _, rfl, rfl, _, rfl, ite2 (fun c => ?_) (fun c => ?_)⟩
        · have c' : y = p := V.int.inj (of_decide_eq_true c)
          refine ⟨_, rfl, .inl ⟨rfl, _, .inl (.inl ho)⟩, _, rfl, _, rfl, _, rfl, (by show 3 ≤ sizeLine; decide), fun t nt => ?_⟩
          have s4' : Same H' (upd H' t (.tup [.int y, .str w', .ref b0])) := same_upd nt
          have ho3 := s4' _ _ ho
          refine ⟨o, acc, _, rfl, rfl, ho3, fin_le (by omega), ?_⟩
          have kp5 : Kp K (upd H' t (.tup [.int y, .str w', .ref b0])) (upd (upd H' t (.tup [.int y, .str w', .ref b0])) o (.lst (acc ++ [.ref t]))) := Kp.lst ho3
          refine ⟨r, acc ++ [.ref t], _, _, _, rfl, (sm.trans s4').over no, upd_same, by rw [List.length_append, List.length_singleton]; omega, h4, by omega, by omega, fun H'' es' kp z => ?_⟩
          rw [List.append_assoc]
          have k3 : Kp K H' H'' := (s4'.kp.trans kp5).trans kp
          obtain ⟨kv, hb1, hb2⟩ := hnk
          refine hc H'' _ k3 ?_
          show SpA K H'' (if y = p then .cons y w' nk (wr r p nk) else .cons y w' (wr k p nk) (wr r p nk)) _
          rw [if_pos c']
          exact ⟨t, b0, kv, es', rfl, (kp5.trans kp).t _ _ (.inl (.inl upd_same)), (sm.kp.trans k3).t _ _ hb1, hb2.mono (sm.kp.trans k3), z⟩
        · have c' : ¬ y = p := fun z => c (decide_eq_true (by rw [z]))
          refine ⟨_, rfl, .inl ⟨rfl, _, .inl (.inl ho)⟩, _, rfl, _, rfl, _, rfl, _, rfl, _, rfl, qa, b0, k, nk, p, rfl, ⟨kk, sm.seqT h2, h3.mono sm.kp⟩, hnk.mono sm.kp, by omega, by omega, fun H3 b sm3 hF => ?_⟩
          rw [ew] at hF
          refine ⟨(by show 3 ≤ sizeLine; decide), fun t nt => ?_⟩
          have s4' : Same H3 (upd H3 t (.tup [.int y, .str w', .ref b])) := same_upd nt
          have ho3 := s4' _ _ (sm3 _ _ ho)
          refine ⟨o, acc, _, rfl, rfl, ho3, fin_le (by omega), ?_⟩
          have kp5 : Kp K (upd H3 t (.tup [.int y, .str w', .ref b])) (upd (upd H3 t (.tup [.int y, .str w', .ref b])) o (.lst (acc ++ [.ref t]))) := Kp.lst ho3
          refine ⟨r, acc ++ [.ref t], _, _, _, rfl, ((sm.trans sm3).trans s4').over no, upd_same, by rw [List.length_append, List.length_singleton]; omega, h4, by omega, by omega, fun H'' es' kp z => ?_⟩
          rw [List.append_assoc]
          have k3 : Kp K H3 H'' := (s4'.kp.trans kp5).trans kp
          obtain ⟨kv, hb1, hb2⟩ := hF
          refine hc H'' _ (sm3.kp.trans k3) ?_
          show SpA K H'' (if y = p then .cons y w' nk (wr r p nk) else .cons y w' (wr k p nk) (wr r p nk)) _
          rw [if_neg c']
          exact ⟨t, b, kv, es', rfl, (kp5.trans kp).t _ _ (.inl (.inl upd_same)), k3.t _ _ hb1, hb2.mono k3, z⟩
    · obtain ⟨g, acc, s4, s5, s6, rfl, sm, ho, hal, hg, hdg, hml, hc⟩ := hp
      rw [drop_end] at hg
      refine ⟨_, rfl, o, acc, rfl, .inl ⟨.inl (.inl ho), fun l nl => q _ l (sm.trans (same_upd nl)) ⟨acc, .inl (.inl upd_same), ?_⟩⟩⟩
      rw [ew]
      cases g with
      | nil =>
        have z := hc (upd H' l (.tup acc)) [] (same_upd nl).kp rfl
        rw [List.append_nil] at z
        exact z
      | cons y w' k r =>
        obtain ⟨pa, qa, kk, rest, e, _⟩ := hg
        cases e
theorem sc_worded : FnScope ["t", "m", "new", "made", "mark", "word", "children"] ["t", "m", "new"] (defScope s_worded) := ⟨rfl, rfl, rfl, by decide +kernel, rfl, by decide +kernel, by decide +kernel⟩
def sp_worded (K : PySem.W.Frag) (n : Nat) : Sp := fun vs H Q _ => ∃ (a : Addr) (f : FS) (m : Int) (u : Str), vs = [.ref a, .int m, .str u] ∧ FoA K H f a ∧ (marks f).length ≤ 1000 ∧ depth f < n ∧
  ∀ H' b, Same H H' → FoA K H' (worded f m u) b → Q (.ref b) H'
theorem ok_worded (D : Df K mg "worded" s_worded ["t", "m", "new"]) (B : Bi mg) : ∀ n : Nat, Pr P w K mg base CX0 n "worded" ["t", "m", "new"] (sp_worded K n)
  | 0 => D.none fun vs H Q E h => by
    obtain ⟨a, f, m, u, _, _, _, h, _⟩ := h
    exact absurd h (Nat.not_lt_zero _)
  | n + 1 => by
    have G_worded : Pr P w K mg base CX0 n "worded" ["t", "m", "new"] (sp_worded K n) := ok_worded D B n
    refine D.ok sc_worded (fun vs H Q E h => ?_) (fun fa cdv A outer s H vs Q E hr h => ?_)
    · obtain ⟨a, f, m, u, rfl, _⟩ := h; rfl
    obtain ⟨a, f, m, u, rfl, ⟨ks, ha, hs⟩, hlen, hd, q⟩ := h
    refine ⟨_, (pss_cons (ps_set (i := 3) sc_worded.nd rfl (Or.inl rfl) (pe_lst pa_nil))
    (pss_cons (ps_for PassesOwn.never rfl (pi_tup (pv 0)) (pg_tup rfl (pgs_cons (pg_name (i := 4) sc_worded.nd rfl (Or.inl rfl)) (pgs_cons (pg_name (i := 5) sc_worded.nd rfl (Or.inl rfl)) (pgs_cons (pg_name (i := 6) sc_worded.nd rfl (Or.inl rfl)) pgs_nil)))) (pss_one (ps_expr (pe_bm PySem.F.plainAttrs_list PySem.F.slot_list_append PySem.F.type_list_append mt_append (pv 3) (pa_cons (pe_tup (pa_cons (pv 4) (pa_cons (pe_ifExp (pt_cmpR op_eq (pv 4) (pv 1) (nomark _)) (pv 2) (pv 5)) (pa_cons (pe_own G_worded (hr.mono (by first | decide | omega)) (by rfl) pass0 (pa_cons (pv 6) (pa_cons (pv 1) (pa_cons (pv 2) pa_nil)))) pa_nil)))) pa_nil)))))
    (pss_one (ps_ret (pe_callTy call_tuple_of (by rfl) B.ttuple (by decide +kernel) (pa_cons (pv 3) pa_nil)))))), ?_⟩
    refine ⟨Nat.zero_le _, fun o no => ?_⟩
    have hks := hs.len
    refine ⟨.ref a, rfl, a, rfl, ⟨ks, (same_upd no).seqT ha⟩, for_tup (K := K) (a := a) (xs := ks) (fun i σ H' => ∃ (g : FS) (acc : List V) (s4 s5 s6 : Option V),
        σ = [some (.ref a), some (.int m), some (.str u), some (.ref o), s4, s5, s6] ∧ Same H H' ∧ H' o = some (.lst acc) ∧ acc.length ≤ i ∧ SpA K H g (ks.drop i) ∧ depth g < n + 1 ∧ (marks g).length ≤ 1000 ∧
        (∀ H'' es', Kp K H' H'' → SpA K H'' (worded g m u) es' → SpA K H'' (worded f m u) (acc ++ es')))
      ⟨f, [], none, none, none, rfl, same_upd no, upd_same, Nat.le_refl _, hs, hd, hlen, fun _ _ _ z => z⟩ (fun i σ H' _ hp => ?_) (fun i x σ H' hx hp => ?_) (fun σ H' hp => ?_)⟩
    · obtain ⟨g, acc, s4, s5, s6, _, sm, _⟩ := hp
      exact sm.seqT ha
    · obtain ⟨g, acc, s4, s5, s6, rfl, sm, ho, hal, hg, hdg, hml, hc⟩ := hp
      have hi := (List.getElem?_eq_some_iff.mp hx).1
      rw [drop_at hx] at hg
      cases g with
      | nil => cases hg
      | cons y w' k r =>
        obtain ⟨pa, qa, kk, rest, e, h1, h2, h3, h4⟩ := hg
        obtain ⟨rfl, rfl⟩ := List.cons.inj e
        have e1 := marks_cons y w' k r
        have e2 := depth_cons y w' k r
        refine ⟨pa, _, rfl, sm.seqT h1, rfl, _, _, rfl, _, _, rfl, _, _, rfl, rfl, ?_⟩
        refine ⟨_, rfl, .inl ⟨rfl, _, .inl (.inl ho)⟩, _, rfl, ?_⟩
        refine ⟨_, rfl, _, rfl, rfl, _, rfl, ifV (va := .str u) (vb := .str w') rfl rfl ?_⟩
        rw [show (if decide (V.int y = V.int m) = true then V.str u else V.str w') = V.str (if y = m then u else w') from by
          by_cases c : y = m
          · rw [if_pos c, decide_eq_true (by rw [c]), if_pos rfl]
          · rw [if_neg c, decide_eq_false (fun z => c (V.int.inj z)), if_neg Bool.false_ne_true]]
        refine ⟨_, rfl, _, rfl, _, rfl, qa, k, m, u, rfl, ⟨kk, sm.seqT h2, h3.mono sm.kp⟩, by omega, by omega, fun H3 b sm3 hF => ?_⟩
        refine ⟨(by show 3 ≤ sizeLine; decide), fun t nt => ?_⟩
        have s4' := same_upd (o := .tup [.int y, .str (if y = m then u else w'), .ref b]) nt
        have ho3 := s4' _ _ (sm3 _ _ ho)
        refine ⟨o, acc, _, rfl, rfl, ho3, fin_le (by omega), ?_⟩
        have kp5 := Kp.lst (K := K) (o := .lst (acc ++ [.ref t])) ho3
        refine ⟨r, acc ++ [.ref t], _, _, _, rfl, ((sm.trans sm3).trans s4').over no, upd_same, by rw [List.length_append, List.length_singleton]; omega, h4, by omega, by omega, fun H'' es' kp z => ?_⟩
        rw [List.append_assoc]
        have k3 : Kp K H3 H'' := (s4'.kp.trans kp5).trans kp
        obtain ⟨kv, hb1, hb2⟩ := hF
        refine hc H'' _ (sm3.kp.trans k3) ?_
        exact ⟨t, b, kv, es', rfl, (kp5.trans kp).t _ _ (.inl (.inl upd_same)), k3.t _ _ hb1, hb2.mono k3, z⟩
    · obtain ⟨g, acc, s4, s5, s6, rfl, sm, ho, hal, hg, hdg, hml, hc⟩ := hp
      rw [drop_end] at hg
      refine ⟨_, rfl, o, acc, rfl, .inl ⟨.inl (.inl ho), fun l nl => q _ l (sm.trans (same_upd nl)) ⟨acc, .inl (.inl upd_same), ?_⟩⟩⟩
      cases g with
      | nil =>
        have z := hc (upd H' l (.tup acc)) [] (same_upd nl).kp rfl
        rw [List.append_nil] at z
        exact z
      | cons y w' k r =>
        obtain ⟨pa, qa, kk, rest, e, _⟩ := hg
        cases e
end
end Gf
set_option Elab.async false
set_option linter.all false
set_option maxRecDepth 100000
set_option maxHeartbeats 4000000
namespace Gf
open PySem PySem.Spec PyProof.Rows L2

def deV : DS → List V
  | .add m w p b => [.str "add", .int m, .str w, .int p, .int b]
  | .drop m => [.str "drop", .int m]
  | .move m p b => [.str "move", .int m, .int p, .int b]
  | .word m w => [.str "word", .int m, .str w]
def deOk : DS → Prop
  | .add m w p b => 0 < m ∧ okW w ∧ 0 ≤ p ∧ 0 ≤ b
  | .drop m => 0 < m
  | .move m p b => 0 < m ∧ 0 ≤ p ∧ 0 ≤ b
  | .word m w => 0 < m ∧ okW w
theorem deOk.pos {d : DS} (h : deOk d) : 0 < deM d := by
  cases d with
  | add m w p b => exact h.1
  | drop m => exact h
  | move m p b => exact h.1
  | word m w => exact h.1
section
variable {P : Program} {w : World} {K : PySem.W.Frag} {mg : Str → Option Value} {base : Heap} {lt mt : Tok} {H H' : Hp}
theorem SpA.ins {s q : Addr} {m : Int} {u : Str} {k : FS} {kv : List V} (h1 : SqT K H s [.int m, .str u, .ref q]) (h2 : SqT K H q kv) (h3 : SpA K H k kv) : ∀ (g : FS) (n : Nat) (vs : List V), SpA K H g vs → SpA K H (insN g n m u k) (insAt vs n (.ref s))
  | .nil, 0, vs, h => ⟨s, q, kv, vs, rfl, h1, h2, h3, h⟩
  | .cons _ _ _ _, 0, vs, h => ⟨s, q, kv, vs, rfl, h1, h2, h3, h⟩
  | .nil, n + 1, vs, h => by
    rw [show vs = [] from h]
    exact ⟨s, q, kv, [], rfl, h1, h2, h3, rfl⟩
  | .cons a b c r, n + 1, vs, ⟨p, q', ks, rest, e, g1, g2, g3, g4⟩ => by
    subst e
    exact ⟨p, q', ks, insAt rest n (.ref s), rfl, g1, g2, g3, SpA.ins h1 h2 h3 r n rest g4⟩
theorem SpA.tm : ∀ {g : FS} {vs : List V}, SpA K H g vs → vs.length = (tmarks g).length
  | .nil, _, h => by rw [show _ = [] from h]; rfl
  | .cons m w k r, _, ⟨p, q, ks, rest, e, h1, h2, h3, h4⟩ => by
    rw [e, List.length_cons, SpA.tm h4]
    rfl
theorem sc_put_in : FnScope ["t", "spot", "parent", "behind", "row", "at", "k", "other"] ["t", "spot", "parent", "behind"] (defScope s_put_in) := ⟨rfl, rfl, rfl, by decide +kernel, rfl, by decide +kernel, by decide +kernel⟩
def sp_put (K : PySem.W.Frag) : Sp := fun vs H Q _ => ∃ (a s q : Addr) (f k : FS) (m p b : Int) (u : Str), vs = [.ref a, .ref s, .int p, .int b] ∧ FoA K H f a ∧ SqT K H s [.int m, .str u, .ref q] ∧ FoA K H k q ∧ (marks f).length ≤ 900 ∧ depth f < 16 ∧
  ∀ H' c, Same H H' → FoA K H' (putIn f m u k p b) c → Q (.ref c) H'
theorem rowAt_len {f : FS} (p : Int) : (marks (rowAt f p)).length ≤ (marks f).length := by
  unfold rowAt
  split
  · exact Nat.le_refl _
  · cases c : findE f p with
    | none => exact Nat.zero_le _
    | some e =>
      obtain ⟨h1, _⟩ := findE_some c
      have h2 : ∀ (g : FS) (q b : Int), ∀ e ∈ ents g q b, (marks e.k).length ≤ (marks g).length := by
        intro g
        induction g with
        | nil => intro q b e h; simp [ents] at h
        | cons m w k r ih1 ih2 =>
          intro q b e h
          have hm := marks_cons m w k r
          have h' : e = ⟨m, w, k, q, b⟩ ∨ e ∈ ents k m 0 ∨ e ∈ ents r q m := by simpa [ents] using h
          rcases h' with h' | h' | h'
          · rw [h']
            show (marks k).length ≤ _
            omega
          · have := ih1 m 0 e h'
            omega
          · have := ih2 q m e h'
            omega
      exact h2 f 0 0 e h1
theorem ok_put_in (D : Df K mg "put_in" s_put_in ["t", "spot", "parent", "behind"]) (B : Bi mg) (G_row_at : Pr P w K mg base CX0 19 "row_at" ["t", "parent"] (sp_row K 16)) (G_with_row : Pr P w K mg base CX0 16 "with_row" ["t", "parent", "row"] (sp_wrow K 16)) :
    Pr P w K mg base CX0 20 "put_in" ["t", "spot", "parent", "behind"] (sp_put K) := by
  refine D.ok sc_put_in (fun vs H Q E h => ?_) (fun fa cdv A outer s H vs Q E hr h => ?_)
  · obtain ⟨a, s, q, f, k, m, p, b, u, rfl, _⟩ := h; rfl
  obtain ⟨a, s0, q0, f, k, m, p, b, u, rfl, hf, hs, hk, hlen, hd, q⟩ := h
  refine ⟨_, (pss_cons (ps_set (i := 4) sc_put_in.nd rfl (Or.inl rfl) (pe_own G_row_at (hr.mono (by first | decide | omega)) (by rfl) pass0 (pa_cons (pv 0) (pa_cons (pv 2) pa_nil))))
    (pss_cons (ps_set (i := 5) sc_put_in.nd rfl (Or.inl rfl) pe_int)
    (pss_cons (ps_for PassesOwn.never rfl (pi_enumT (by rfl) B.enumerate (pa_cons (pv 4) pa_nil)) (pg_tup rfl (pgs_cons (pg_name (i := 6) sc_put_in.nd rfl (Or.inl rfl)) (pgs_cons (pg_name (i := 7) sc_put_in.nd rfl (Or.inl rfl)) pgs_nil))) (pss_one (ps_if (pt_cmpR op_eq (pe_ix ix_tup (pv 7) pe_int (fun _ _ => rfl)) (pv 3) (nomark _)) (pss_one (ps_set (i := 5) sc_put_in.nd rfl (Or.inl rfl) (pe_op op_add (pv 6) pe_int))) pss_nil)))
    (pss_one (ps_ret (pe_own G_with_row (hr.mono (by first | decide | omega)) (by rfl) pass0 (pa_cons (pv 0) (pa_cons (pv 2) (pa_cons (pe_op op_catA (pe_op op_catA (pe_slice sl_tupA (pv 4) po_none (po_some (pv 5))) (pe_tup (pa_cons (pv 1) pa_nil))) (pe_slice sl_tupA (pv 4) (po_some (pv 5)) po_none)) pa_nil))))))))), ?_⟩
  refine ⟨_, rfl, _, rfl, a, f, p, rfl, hf, by omega, hd, fun H1 r sm1 hR => ?_⟩
  have hlG := rowAt_len (f := f) p
  obtain ⟨rv, hr1, hr2⟩ := hR
  have hrl := hr2.tm
  have hrl2 := hr2.len
  refine ⟨_, rfl, r, rv, rfl, hr1, for_gen (n := rv.length) (fun i σ H' => ∃ (g : FS) (pre : List Int) (s6 s7 : Option V), σ = [some (.ref a), some (.ref s0), some (.int p), some (.int b), some (.ref r), some (.int (posL pre b : Nat)), s6, s7] ∧
      pre ++ tmarks g = tmarks (rowAt f p) ∧ pre.length = i ∧ SpA K H1 g (rv.drop i) ∧ Same H1 H')
    ⟨rowAt f p, [], none, none, rfl, rfl, rfl, hr2, Same.refl _⟩ (fun i σ H' hi hp => ?_) (fun σ H' hp => ?_) (fun i x σ H2 H3 hi hp y => ?_) (fun σ H' hp => ?_)⟩
  · obtain ⟨g, pre, s6, s7, _, _, _, _, sm⟩ := hp
    exact ⟨rv, rv[i], sm.seqT hr1, List.getElem?_eq_getElem hi⟩
  · obtain ⟨g, pre, s6, s7, _, _, _, _, sm⟩ := hp
    exact ⟨rv, sm.seqT hr1, rfl⟩
  · obtain ⟨g, pre, s6, s7, rfl, hpre, hpl, hg, sm⟩ := hp
    obtain ⟨T, x, rfl, nT, rfl, hx⟩ := y
    have hx := hx rv (sm.seqT hr1)
    rw [drop_at hx] at hg
    cases g with
    | nil => cases hg
    | cons z u' k' r' =>
      obtain ⟨pa, qa, kk, rest, e, h1, h2, h3, h4⟩ := hg
      obtain ⟨rfl, rfl⟩ := List.cons.inj e
      have sT : Same H1 (upd H2 T (.tup [.int (i : Nat), .ref pa])) := sm.trans (same_upd nT)
      refine ⟨T, _, rfl, .inl (.inl upd_same), rfl, _, _, rfl, _, _, rfl, rfl, ?_⟩
      refine ⟨_, rfl, pa, _, 0, .int z, rfl, rfl, sT.seqT h1, atI_nat (j := 0) rfl, _, rfl, rfl, _, rfl, ite2 (fun c => ?_) (fun c => ?_)⟩
      · have c' : z = b := V.int.inj (of_decide_eq_true c)
        refine ⟨_, rfl, _, _, rfl, rfl, ?_⟩
        refine ⟨r', pre ++ [z], some (.int (i : Nat)), some (.ref pa), ?_, by rw [List.append_assoc]; exact hpre, by rw [List.length_append, hpl]; rfl, h4, sT⟩
        rw [posL_snoc, if_pos c', hpl]
        rfl
      · have c' : ¬ z = b := fun y => c (decide_eq_true (by rw [y]))
        refine ⟨r', pre ++ [z], some (.int (i : Nat)), some (.ref pa), ?_, by rw [List.append_assoc]; exact hpre, by rw [List.length_append, hpl]; rfl, h4, sT⟩
        rw [posL_snoc, if_neg c']
        rfl
  · obtain ⟨g, pre, s6, s7, rfl, hpre, hpl, hg, sm⟩ := hp
    rw [drop_end] at hg
    have ht : pre = tmarks (rowAt f p) := by
      cases g with
      | nil => rw [← hpre]; exact (List.append_nil _).symm
      | cons z u' k' r' =>
        obtain ⟨pa, qa, kk, rest, e, _⟩ := hg
        cases e
    subst ht
    have hle : posL (tmarks (rowAt f p)) b ≤ rv.length := by
      rw [hrl]
      exact posL_le _ _
    -- with_row(t, parent, row[:at] + (spot,) + row[at:])
    refine ⟨_, rfl, _, rfl, _, rfl, _, rfl, _, rfl, slA_any (sm.seqT hr1) fun H4 c1 sm4 hc1 => ?_⟩
    refine ⟨_, rfl, (by show 1 ≤ sizeLine; decide), fun t nt => ?_⟩
    rw [cut_to] at hc1
    have s5 : Same H4 (upd H4 t (.tup [.ref s0])) := same_upd nt
    refine catA_any (s5.seqT hc1) (.inl (.inl upd_same)) ?_ fun H6 c2 sm6 hc2 => ?_
    · rw [List.length_take, List.length_singleton]
      exact fin_le (by omega)
    refine ⟨_, rfl, _, rfl, _, rfl, ?_⟩
    refine slA_any (lo := some ((posL (tmarks (rowAt f p)) b : Nat) : Int)) (hi := none) (Q := fun y H2 => rCatA K (.ref c2) y H2 ?R) (((sm4.trans s5).trans sm6).seqT (sm.seqT hr1)) fun H7 c3 sm7 hc3 => ?_
    rw [cut_from] at hc3
    refine catA_any (sm7.seqT hc2) hc3 ?_ fun H8 c4 sm8 hc4 => ?_
    · rw [List.length_append, List.length_take, List.length_singleton, List.length_drop]
      exact Nat.le_of_lt (fin_le (by omega))
    have smA : Same H H8 := (((((sm1.trans sm).trans sm4).trans s5).trans sm6).trans sm7).trans sm8
    have smB : Same H1 H8 := ((((sm.trans sm4).trans s5).trans sm6).trans sm7).trans sm8
    obtain ⟨kv, k1, k2⟩ := hk
    refine ⟨a, c4, f, insN (rowAt f p) (posL (tmarks (rowAt f p)) b) m u k, p, rfl, hf.mono smA.kp, ⟨_, hc4, ?_⟩, by omega, hd, fun H9 c sm9 hF => q H9 c (smA.trans sm9) hF⟩
    rw [List.append_assoc]
    exact SpA.ins (smA.seqT hs) (smA.seqT k1) (k2.mono smA.kp) (rowAt f p) _ rv (hr2.mono smB.kp)
theorem depth_taken (m : Int) : ∀ f : FS, depth (taken f m) ≤ depth f
  | .nil => Nat.le_refl _
  | .cons x w k r => by
    have h1 := depth_taken m k
    have h2 := depth_taken m r
    have h3 := depth_cons x w k r
    show depth (if x = m then taken r m else .cons x w (taken k m) (taken r m)) ≤ _
    split
    · omega
    · rw [depth_cons]
      omega
theorem taken_len (m : Int) : ∀ f : FS, (marks (taken f m)).length ≤ (marks f).length
  | .nil => Nat.le_refl _
  | .cons x w k r => by
    have h1 := taken_len m k
    have h2 := taken_len m r
    have h3 := marks_cons x w k r
    show (marks (if x = m then taken r m else .cons x w (taken k m) (taken r m))).length ≤ _
    split
    · omega
    · rw [marks_cons]
      omega
theorem sc_plot_behind_deed : FnScope ["t", "deed", "kind", "m"] ["t", "deed"] (defScope s_plot_behind_deed) := ⟨rfl, rfl, rfl, by decide +kernel, rfl, by decide +kernel, by decide +kernel⟩
def sp_behind (K : PySem.W.Frag) : Sp := fun vs H Q _ => ∃ (a da : Addr) (f : FS) (d : DS), vs = [.ref a, .ref da] ∧ FoA K H f a ∧ SqT K H da (deV d) ∧ POk f d ∧ (marks f).length ≤ 900 ∧ depth f < 16 ∧
  ∀ H' c, Same H H' → FoA K H' (behind f d) c → Q (.ref c) H'
theorem ok_plot_behind_deed (D : Df K mg "plot_behind_deed" s_plot_behind_deed ["t", "deed"]) (G_put_in : Pr P w K mg base CX0 20 "put_in" ["t", "spot", "parent", "behind"] (sp_put K)) (G_taken_out : Pr P w K mg base CX0 16 "taken_out" ["t", "m"] (sp_taken K 16))
    (G_spot_with : Pr P w K mg base CX0 19 "spot_with" ["t", "m"] (sp_spot K 16)) (G_worded : Pr P w K mg base CX0 16 "worded" ["t", "m", "new"] (sp_worded K 16)) :
    Pr P w K mg base CX0 21 "plot_behind_deed" ["t", "deed"] (sp_behind K) := by
  refine D.ok sc_plot_behind_deed (fun vs H Q E h => ?_) (fun fa cdv A outer s H vs Q E hr h => ?_)
  · obtain ⟨a, da, f, d, rfl, _⟩ := h; rfl
  obtain ⟨a, da, f, d, rfl, hf, hda, hok, hlen, hd, q⟩ := h
  refine ⟨_, (pss_cons (ps_set (i := 2) sc_plot_behind_deed.nd rfl (Or.inl rfl) (pe_ix ix_tup (pv 1) pe_int (fun _ _ => rfl)))
    (pss_cons (ps_set (i := 3) sc_plot_behind_deed.nd rfl (Or.inl rfl) (pe_ix ix_tup (pv 1) pe_int (fun _ _ => rfl)))
    (pss_cons (ps_if (pt_cmpR op_eq (pv 2) pe_str (nomark _)) (pss_one (ps_ret (pe_own G_put_in (hr.mono (by first | decide | omega)) (by rfl) pass0 (pa_cons (pv 0) (pa_cons (pe_tup (pa_cons (pv 3) (pa_cons (pe_ix ix_tup (pv 1) pe_int (fun _ _ => rfl)) (pa_cons (pe_tup pa_nil) pa_nil)))) (pa_cons (pe_ix ix_tup (pv 1) pe_int (fun _ _ => rfl)) (pa_cons (pe_ix ix_tup (pv 1) pe_int (fun _ _ => rfl)) pa_nil))))))) pss_nil)
    (pss_cons (ps_if (pt_cmpR op_eq (pv 2) pe_str (nomark _)) (pss_one (ps_ret (pe_own G_taken_out (hr.mono (by first | decide | omega)) (by rfl) pass0 (pa_cons (pv 0) (pa_cons (pv 3) pa_nil))))) pss_nil)
    (pss_cons (ps_if (pt_cmpR op_eq (pv 2) pe_str (nomark _)) (pss_one (ps_ret (pe_own G_put_in (hr.mono (by first | decide | omega)) (by rfl) pass0 (pa_cons (pe_own G_taken_out (hr.mono (by first | decide | omega)) (by rfl) pass0 (pa_cons (pv 0) (pa_cons (pv 3) pa_nil))) (pa_cons (pe_own G_spot_with (hr.mono (by first | decide | omega)) (by rfl) pass0 (pa_cons (pv 0) (pa_cons (pv 3) pa_nil))) (pa_cons (pe_ix ix_tup (pv 1) pe_int (fun _ _ => rfl)) (pa_cons (pe_ix ix_tup (pv 1) pe_int (fun _ _ => rfl)) pa_nil))))))) pss_nil)
    (pss_one (ps_ret (pe_own G_worded (hr.mono (by first | decide | omega)) (by rfl) pass0 (pa_cons (pv 0) (pa_cons (pv 3) (pa_cons (pe_ix ix_tup (pv 1) pe_int (fun _ _ => rfl)) pa_nil))))))))))), ?_⟩
  cases d with
  | add m u p b =>
    refine ⟨_, rfl, da, _, 0, _, rfl, rfl, hda, atI_nat (j := 0) rfl, ?_⟩
    refine ⟨_, rfl, da, _, 1, _, rfl, rfl, hda, atI_nat (j := 1) rfl, ?_⟩
    refine ⟨_, rfl, rfl, _, rfl, itT (by decide +kernel) ?_⟩
    refine ⟨_, rfl, _, rfl, _, rfl, da, _, 2, _, rfl, rfl, hda, atI_nat (j := 2) rfl, Nat.zero_le _, fun e ne => ⟨(by show 3 ≤ sizeLine; decide), fun s1 ns => ?_⟩⟩
    have sA : Same H (upd H e (.tup [])) := same_upd ne
    have sB := sA.trans (same_upd (o := .tup [.int m, .str u, .ref e]) ns)
    refine ⟨_, rfl, da, _, 3, _, rfl, rfl, sB.seqT hda, atI_nat (j := 3) rfl, _, rfl, da, _, 4, _, rfl, rfl, sB.seqT hda, atI_nat (j := 4) rfl, ?_⟩
    exact ⟨a, s1, e, f, .nil, m, p, b, u, rfl, hf.mono sB.kp, .inl (.inl upd_same), ⟨[], (same_upd ns).seqT (.inl (.inl upd_same)), rfl⟩, hlen, hd, fun H' c sm hF => q H' c (sB.trans sm) hF⟩
  | drop m =>
    refine ⟨_, rfl, da, _, 0, _, rfl, rfl, hda, atI_nat (j := 0) rfl, ?_⟩
    refine ⟨_, rfl, da, _, 1, _, rfl, rfl, hda, atI_nat (j := 1) rfl, ?_⟩
    refine ⟨_, rfl, rfl, _, rfl, itF (by decide +kernel) ?_⟩
    refine ⟨_, rfl, rfl, _, rfl, itT (by decide +kernel) ?_⟩
    exact ⟨_, rfl, _, rfl, a, f, m, rfl, hf, by omega, hd, q⟩
  | move m p b =>
    refine ⟨_, rfl, da, _, 0, _, rfl, rfl, hda, atI_nat (j := 0) rfl, ?_⟩
    refine ⟨_, rfl, da, _, 1, _, rfl, rfl, hda, atI_nat (j := 1) rfl, ?_⟩
    refine ⟨_, rfl, rfl, _, rfl, itF (by decide +kernel) ?_⟩
    refine ⟨_, rfl, rfl, _, rfl, itF (by decide +kernel) ?_⟩
    refine ⟨_, rfl, rfl, _, rfl, itT (by decide +kernel) ?_⟩
    obtain ⟨e, he, he2, he3⟩ := findE_mem hok.1
    subst he3
    have h1 := depth_taken e.m f
    have h2 := taken_len e.m f
    refine ⟨_, rfl, _, rfl, a, f, e.m, rfl, hf, by omega, hd, fun H1 c1 sm1 hF1 => ?_⟩
    refine ⟨_, rfl, _, rfl, a, f, e, rfl, hf.mono sm1.kp, by omega, hd, he, fun H2 s2 q2 sm2 hs2 hq2 => ?_⟩
    refine ⟨_, rfl, da, _, 2, _, rfl, rfl, (sm1.trans sm2).seqT hda, atI_nat (j := 2) rfl, _, rfl, da, _, 3, _, rfl, rfl, (sm1.trans sm2).seqT hda, atI_nat (j := 3) rfl, ?_⟩
    refine ⟨c1, s2, q2, taken f e.m, e.k, e.m, p, b, e.w, rfl, hF1.mono sm2.kp, hs2, hq2, by omega, by omega, fun H' c sm hF => q H' c ((sm1.trans sm2).trans sm) ?_⟩
    have e2 : behind f (.move e.m p b) = putIn (taken f e.m) e.m e.w e.k p b := by
      simp only [behind, he]
    rw [e2]
    exact hF
  | word m u =>
    refine ⟨_, rfl, da, _, 0, _, rfl, rfl, hda, atI_nat (j := 0) rfl, ?_⟩
    refine ⟨_, rfl, da, _, 1, _, rfl, rfl, hda, atI_nat (j := 1) rfl, ?_⟩
    refine ⟨_, rfl, rfl, _, rfl, itF (by decide +kernel) ?_⟩
    refine ⟨_, rfl, rfl, _, rfl, itF (by decide +kernel) ?_⟩
    refine ⟨_, rfl, rfl, _, rfl, itF (by decide +kernel) ?_⟩
    exact ⟨_, rfl, _, rfl, _, rfl, da, _, 2, _, rfl, rfl, hda, atI_nat (j := 2) rfl, a, f, m, u, rfl, hf, by omega, hd, q⟩
end
end Gf
set_option Elab.async false
set_option linter.all false
set_option maxRecDepth 100000
set_option maxHeartbeats 4000000
namespace Gf
open PySem PySem.Spec PyProof.Rows L2
section
variable {P : Program} {w : World} {K : PySem.W.Frag} {mg : Str → Option Value} {base : Heap} {lt mt : Tok} {H H' : Hp}

theorem sc_reason_at : FnScope ["t", "deed", "kind", "m", "places", "parent", "behind"] ["t", "deed"] (defScope s_reason_at) := ⟨rfl, rfl, rfl, by decide +kernel, rfl, by decide +kernel, by decide +kernel⟩
def sp_reason (K : PySem.W.Frag) : Sp := fun vs H Q _ => ∃ (a da : Addr) (f : FS) (d : DS), vs = [.ref a, .ref da] ∧ FoA K H f a ∧ SqT K H da (deV d) ∧ (marks f).length ≤ 900 ∧ depth f < 16 ∧ (marks f).Nodup ∧ (∀ m ∈ marks f, 0 < m) ∧ 0 < deM d ∧
  (POk f d → ∀ H', Same H H' → Q .non H') ∧ (¬ POk f d → ∀ H' z, Same H H' → Q (.str z) H')
theorem ok_reason_at (D : Df K mg "reason_at" s_reason_at ["t", "deed"]) (B : Bi mg) (G_places_of : Pr P w K mg base CX0 19 "places_of" ["t"] (sp_places K 16)) (G_row_at : Pr P w K mg base CX0 19 "row_at" ["t", "parent"] (sp_row K 16))
    (G_is_inside : Pr P w K mg base CX0 1 "is_inside" ["places", "parent", "m"] (sp_inside K)) : Pr P w K mg base CX0 20 "reason_at" ["t", "deed"] (sp_reason K) := by
  refine D.ok sc_reason_at (fun vs H Q E h => ?_) (fun fa cdv A outer s H vs Q E hr h => ?_)
  · obtain ⟨a, da, f, d, rfl, _⟩ := h; rfl
  obtain ⟨a, da, f, d, rfl, hf, hda, hlen, hd, hn, hp0, hm0, qy, qn⟩ := h
  have h0 : (0 : Int) ∉ marks f := fun z => absurd (hp0 0 z) (by omega)
  refine ⟨_, (pss_cons (ps_set (i := 2) sc_reason_at.nd rfl (Or.inl rfl) (pe_ix ix_tup (pv 1) pe_int (fun _ _ => rfl)))
    (pss_cons (ps_set (i := 3) sc_reason_at.nd rfl (Or.inl rfl) (pe_ix ix_tup (pv 1) pe_int (fun _ _ => rfl)))
    (pss_cons (ps_set (i := 4) sc_reason_at.nd rfl (Or.inl rfl) (pe_own G_places_of (hr.mono (by first | decide | omega)) (by rfl) pass0 (pa_cons (pv 0) pa_nil)))
    (pss_cons (ps_if (pt_cmpR op_eq (pe_cmpR op_eq (pv 2) pe_str (nomark _)) (pe_cmp (pc_din (hu_of hr) (pv 3) (pv 4))) (nomark _)) (pss_one (ps_ret pe_str)) pss_nil)
    (pss_cons (ps_if (PW.pt (pw_or (pt_cmpR op_eq (pv 2) pe_str (nomark _)) (pw_or1 (pt_cmpR op_eq (pv 2) pe_str (nomark _))))) (pss_cons (ps_asg (pe_slice sl_tupA (pv 1) (po_some (pe_un un_neg pe_int)) po_none) (pg_tup rfl (pgs_cons (pg_name (i := 5) sc_reason_at.nd rfl (Or.inl rfl)) (pgs_cons (pg_name (i := 6) sc_reason_at.nd rfl (Or.inl rfl)) pgs_nil))))
    (pss_cons (ps_if (PW.pt (pw_and (pt_cmpR op_ne (pv 5) pe_int (nomark _)) (pw_and1 (pt_cmp (pc_dnotin (hu_of hr) (pv 5) (pv 4)))))) (pss_one (ps_ret pe_str)) pss_nil)
    (pss_cons (ps_if (PW.pt (pw_and (pt_cmpR op_eq (pv 2) pe_str (nomark _)) (pw_and1 (pt_val (pe_own G_is_inside (hr.mono (by first | decide | omega)) (by rfl) pass0 (pa_cons (pv 4) (pa_cons (pv 5) (pa_cons (pv 3) pa_nil)))))))) (pss_one (ps_ret pe_str)) pss_nil)
    (pss_one (ps_if (PW.pt (pw_and (pt_cmpR op_ne (pv 6) pe_int (nomark _)) (pw_and1 (PW.pt (pw_or (pt_cmpR op_eq (pv 6) (pv 3) (nomark _)) (pw_or (pt_cmp (pc_dnotin (hu_of hr) (pv 6) (pv 4))) (pw_or1 (pt_cmpR op_ne (pe_ix ix_tup (pe_dget (hu_of hr) (pv 4) (pv 6) (fun _ _ => rfl)) pe_int (fun _ _ => rfl)) (pv 5) (nomark _))))))))) (pss_one (ps_ret pe_str)) pss_nil))))) pss_nil)
    (pss_cons (ps_if (PW.pt (pw_and (pt_cmpR op_eq (pv 2) pe_str (nomark _)) (pw_and1 (pt_cmpR op_gt (pe_callB call_len_seq (by rfl) B.len PySem.boot_len (pa_cons (pe_own G_row_at (hr.mono (by first | decide | omega)) (by rfl) pass0 (pa_cons (pv 0) (pa_cons (pv 3) pa_nil))) pa_nil)) pe_int (nomark _))))) (pss_one (ps_ret pe_str)) pss_nil)
    (pss_one (ps_ret pe_non)))))))), ?_⟩
  cases d with
  | word m u =>
    refine ⟨_, rfl, da, _, 0, _, rfl, rfl, hda, atI_nat (j := 0) rfl, ?_⟩
    refine ⟨_, rfl, da, _, 1, _, rfl, rfl, hda, atI_nat (j := 1) rfl, ?_⟩
    refine ⟨_, rfl, a, f, rfl, hf, by omega, hd, hn, fun H1 dd kv sm1 hd1 hP => ?_⟩
    have hP' := hP.isSome hn
    -- the mark
    refine ⟨_, rfl, rfl, _, rfl, _, rfl, dd, _, rfl, DGet.k (k := Sum.inl m) hd1, rfl, _, rfl, ?_⟩
    rw [hP' m]

    by_cases c : m ∈ marks f
    · refine itF (by rw [decide_eq_true c]; decide +kernel) ?_
      refine ⟨_, rfl, rfl, _, rfl, itF (by decide +kernel) ?_⟩
      refine ⟨_, rfl, rfl, _, rfl, itF (by decide +kernel) ?_⟩
      refine ⟨_, rfl, rfl, _, rfl, itF (by decide +kernel) ?_⟩
      exact qy c H1 sm1
    · refine itT (by rw [decide_eq_false c]; decide +kernel) ?_
      exact qn c H1 _ sm1
  | drop m =>
    refine ⟨_, rfl, da, _, 0, _, rfl, rfl, hda, atI_nat (j := 0) rfl, ?_⟩
    refine ⟨_, rfl, da, _, 1, _, rfl, rfl, hda, atI_nat (j := 1) rfl, ?_⟩
    refine ⟨_, rfl, a, f, rfl, hf, by omega, hd, hn, fun H1 dd kv sm1 hd1 hP => ?_⟩
    have hP' := hP.isSome hn
    -- the mark
    refine ⟨_, rfl, rfl, _, rfl, _, rfl, dd, _, rfl, DGet.k (k := Sum.inl m) hd1, rfl, _, rfl, ?_⟩
    rw [hP' m]

    by_cases c : m ∈ marks f
    · refine itF (by rw [decide_eq_true c]; decide +kernel) ?_
      refine ⟨_, rfl, rfl, _, rfl, itF (by decide +kernel) ?_⟩
      refine ⟨_, rfl, rfl, _, rfl, itF (by decide +kernel) ?_⟩
      refine ⟨_, rfl, rfl, _, rfl, itT (by decide +kernel) ?_⟩
      refine ⟨_, rfl, _, rfl, a, f, m, rfl, hf.mono sm1.kp, by omega, hd, fun H2 r sm2 hR => ?_⟩
      obtain ⟨rv, hr1, hr2⟩ := hR
      refine ⟨r, rv, rfl, .inr hr1, _, _, rfl, rfl, _, rfl, ?_⟩
      cases e : rowAt f m with
      | nil =>
        rw [e] at hr2
        have e2 : rv = [] := hr2
        subst e2
        exact qy ⟨c, e⟩ H2 (sm1.trans sm2)
      | cons x u' k r' =>
        rw [e] at hr2
        obtain ⟨pa, qa, kk, rest, ee, _⟩ := hr2
        subst ee
        refine itT (decide_eq_true (by rw [List.length_cons]; omega)) ?_
        exact qn (fun z => by rw [z.2] at e; cases e) H2 _ (sm1.trans sm2)
    · refine itT (by rw [decide_eq_false c]; decide +kernel) ?_
      exact qn (fun z => c z.1) H1 _ sm1
  | add m u p b =>
    refine ⟨_, rfl, da, _, 0, _, rfl, rfl, hda, atI_nat (j := 0) rfl, ?_⟩
    refine ⟨_, rfl, da, _, 1, _, rfl, rfl, hda, atI_nat (j := 1) rfl, ?_⟩
    refine ⟨_, rfl, a, f, rfl, hf, by omega, hd, hn, fun H1 dd kv sm1 hd1 hP => ?_⟩
    have hP' := hP.isSome hn
    -- the mark
    refine ⟨_, rfl, rfl, _, rfl, _, rfl, dd, _, rfl, DGet.k (k := Sum.inl m) hd1, rfl, _, rfl, ?_⟩
    rw [hP' m]

    by_cases c : m ∈ marks f
    · refine itT (by rw [decide_eq_true c]; decide +kernel) ?_
      exact qn (fun z => z.1 c) H1 _ sm1
    refine itF (by rw [decide_eq_false c]; decide +kernel) ?_

    -- kind == 'add' or kind == 'move'; parent, behind = deed[-2:]
    refine ⟨_, rfl, rfl, _, rfl, itT (by decide +kernel) ?_⟩
    refine ⟨_, rfl, 2, rfl, _, rfl, ?_⟩
    unfold tNoPart
    refine slA_any (sm1.seqT hda) fun H2 c2 sm2 hc2 => ?_
    refine ⟨c2, _, rfl, hc2, rfl, _, _, rfl, _, _, rfl, rfl, ?_⟩
    have hd2 := sm2 _ _ hd1
    have hP2 := hP.mono sm2.kp
    have smA := sm1.trans sm2
    -- the parent
    have eP := hP2.isSome hn
    by_cases hpar : p = 0 ∨ p ∈ marks f
    rotate_left
    · refine ⟨_, rfl, rfl, _, rfl, itT (by rw [decide_eq_false (fun z => hpar (.inl (V.int.inj z)))]; rfl) ?_⟩
      refine ⟨_, rfl, _, rfl, dd, _, rfl, DGet.k (k := Sum.inl p) hd2, _, rfl, itT ?_ ?_⟩
      · rw [eP p, decide_eq_false (fun z => hpar (.inr z))]
        rfl
      · exact qn (fun z => hpar z.2.1) H2 _ smA
    refine ⟨_, rfl, rfl, _, rfl, andT (fun c hk => ?_) ?_⟩
    · have c0 : ¬ p = 0 := fun z => by
        rw [decide_eq_true (by rw [z])] at c
        exact absurd c (by decide)
      refine ⟨_, rfl, _, rfl, dd, _, rfl, DGet.k (k := Sum.inl p) hd2, _, rfl, ?_⟩
      rw [eP p, decide_eq_true (hpar.resolve_left c0)]
      exact hk
    -- inside
    refine ⟨_, rfl, rfl, _, rfl, itF (by decide +kernel) ?_⟩
    -- behind
    by_cases hb : BehP f m p b
    rotate_left
    · have b0 : ¬ b = 0 := fun z => hb (.inl z)
      have no : ¬ POk f (.add m u p b) := fun z => hb z.2.2
      refine ⟨_, rfl, rfl, _, rfl, itT (by rw [decide_eq_false (fun z => b0 (V.int.inj z))]; rfl) ?_⟩
      refine ⟨_, rfl, _, rfl, rfl, _, rfl, ite2 (fun c => ?_) (fun c => ?_)⟩
      · exact qn no H2 _ smA
      have c1 : ¬ b = m := fun z => c (decide_eq_true (by rw [z]))
      refine ⟨_, rfl, _, rfl, dd, _, rfl, DGet.k (k := Sum.inl b) hd2, _, rfl, ?_⟩
      rw [eP b]
      refine ite2 (fun c => ?_) (fun c => ?_)
      · exact qn no H2 _ smA
      have c2 : b ∈ marks f := Classical.byContradiction fun z => c (by rw [decide_eq_false z]; rfl)
      obtain ⟨e, e1, e2, e3⟩ := findE_mem c2
      obtain ⟨t, ht, hT⟩ := hP2.some (by rw [ents_marks]; exact hn) e2
      refine ⟨_, rfl, _, rfl, dd, .ref t, rfl, ?_, t, _, 1, .int e.p, rfl, rfl, hT, atI_nat (j := 1) rfl, _, rfl, rfl, _, rfl, itT ?_ ?_⟩
      · rw [← ht, e3]
        exact DGet.k (k := Sum.inl b) hd2
      · have ne : ¬ e.p = p := fun z => hb (.inr ⟨c1, e, e2, e3, z⟩)
        rw [decide_eq_false (fun z => ne (V.int.inj z))]
        rfl
      · exact qn no H2 _ smA
    refine ⟨_, rfl, rfl, _, rfl, andT (fun c hk => ?_) ?_⟩
    · have b0 : ¬ b = 0 := fun z => by
        rw [decide_eq_true (by rw [z])] at c
        exact absurd c (by decide)
      obtain ⟨c1, e, e2, rfl, e4⟩ := hb.resolve_left b0
      obtain ⟨t, ht, hT⟩ := hP2.some (by rw [ents_marks]; exact hn) e2
      have c2 : e.m ∈ marks f := mem_marks.mpr ⟨e, e2, rfl⟩
      refine ⟨_, rfl, _, rfl, rfl, _, rfl, itF (decide_eq_false (fun z => c1 (V.int.inj z))) ?_⟩
      refine ⟨_, rfl, _, rfl, dd, _, rfl, DGet.k (k := Sum.inl e.m) hd2, _, rfl, itF (by rw [eP e.m, decide_eq_true c2]; rfl) ?_⟩
      refine ⟨_, rfl, _, rfl, dd, .ref t, rfl, ?_, t, _, 1, .int e.p, rfl, rfl, hT, atI_nat (j := 1) rfl, _, rfl, rfl, _, rfl, ?_⟩
      · rw [← ht]
        exact DGet.k (k := Sum.inl e.m) hd2
      · rw [decide_eq_true (show V.int e.p = V.int p by rw [e4])]
        exact hk
    refine ⟨_, rfl, rfl, _, rfl, itF (by decide +kernel) ?_⟩
    exact qy ⟨c, hpar, hb⟩ H2 smA

  | move m p b =>
    refine ⟨_, rfl, da, _, 0, _, rfl, rfl, hda, atI_nat (j := 0) rfl, ?_⟩
    refine ⟨_, rfl, da, _, 1, _, rfl, rfl, hda, atI_nat (j := 1) rfl, ?_⟩
    refine ⟨_, rfl, a, f, rfl, hf, by omega, hd, hn, fun H1 dd kv sm1 hd1 hP => ?_⟩
    have hP' := hP.isSome hn
    -- the mark
    refine ⟨_, rfl, rfl, _, rfl, _, rfl, dd, _, rfl, DGet.k (k := Sum.inl m) hd1, rfl, _, rfl, ?_⟩
    rw [hP' m]

    by_cases c : m ∈ marks f
    rotate_left
    · refine itT (by rw [decide_eq_false c]; decide +kernel) ?_
      exact qn (fun z => c z.1) H1 _ sm1
    refine itF (by rw [decide_eq_true c]; decide +kernel) ?_

    -- kind == 'add' or kind == 'move'; parent, behind = deed[-2:]
    refine ⟨_, rfl, rfl, _, rfl, itF (by decide +kernel) ?_⟩
    refine ⟨_, rfl, rfl, _, rfl, itT (by decide +kernel) ?_⟩
    refine ⟨_, rfl, 2, rfl, _, rfl, ?_⟩
    unfold tNoPart
    refine slA_any (sm1.seqT hda) fun H2 c2 sm2 hc2 => ?_
    refine ⟨c2, _, rfl, hc2, rfl, _, _, rfl, _, _, rfl, rfl, ?_⟩
    have hd2 := sm2 _ _ hd1
    have hP2 := hP.mono sm2.kp
    have smA := sm1.trans sm2
    -- the parent
    have eP := hP2.isSome hn
    by_cases hpar : p = 0 ∨ p ∈ marks f
    rotate_left
    · refine ⟨_, rfl, rfl, _, rfl, itT (by rw [decide_eq_false (fun z => hpar (.inl (V.int.inj z)))]; rfl) ?_⟩
      refine ⟨_, rfl, _, rfl, dd, _, rfl, DGet.k (k := Sum.inl p) hd2, _, rfl, itT ?_ ?_⟩
      · rw [eP p, decide_eq_false (fun z => hpar (.inr z))]
        rfl
      · exact qn (fun z => hpar z.2.1) H2 _ smA
    refine ⟨_, rfl, rfl, _, rfl, andT (fun c hk => ?_) ?_⟩
    · have c0 : ¬ p = 0 := fun z => by
        rw [decide_eq_true (by rw [z])] at c
        exact absurd c (by decide)
      refine ⟨_, rfl, _, rfl, dd, _, rfl, DGet.k (k := Sum.inl p) hd2, _, rfl, ?_⟩
      rw [eP p, decide_eq_true (hpar.resolve_left c0)]
      exact hk
    -- inside
    obtain ⟨l, hch, hl⟩ := chain_of hn hp0 hpar
    refine ⟨_, rfl, rfl, _, rfl, itT (by decide +kernel) ?_⟩
    refine ⟨_, rfl, _, rfl, _, rfl, dd, kv, f, p, m, l, rfl, hd2, hP2, hn, h0, hpar, hch, _, rfl, ite2 (fun ci => ?_) (fun ci => ?_)⟩
    · exact qn (fun z => z.2.2.1 ⟨l, hch, of_decide_eq_true ci⟩) H2 _ smA
    have hin : ¬ Inside (parF f) m p := fun z => by
      obtain ⟨l', h1, h2⟩ := z
      rw [chn_uniq h1 hch] at h2
      exact ci (decide_eq_true h2)
    -- behind
    by_cases hb : BehP f m p b
    rotate_left
    · have b0 : ¬ b = 0 := fun z => hb (.inl z)
      have no : ¬ POk f (.move m p b) := fun z => hb z.2.2.2
      refine ⟨_, rfl, rfl, _, rfl, itT (by rw [decide_eq_false (fun z => b0 (V.int.inj z))]; rfl) ?_⟩
      refine ⟨_, rfl, _, rfl, rfl, _, rfl, ite2 (fun c => ?_) (fun c => ?_)⟩
      · exact qn no H2 _ smA
      have c1 : ¬ b = m := fun z => c (decide_eq_true (by rw [z]))
      refine ⟨_, rfl, _, rfl, dd, _, rfl, DGet.k (k := Sum.inl b) hd2, _, rfl, ?_⟩
      rw [eP b]
      refine ite2 (fun c => ?_) (fun c => ?_)
      · exact qn no H2 _ smA
      have c2 : b ∈ marks f := Classical.byContradiction fun z => c (by rw [decide_eq_false z]; rfl)
      obtain ⟨e, e1, e2, e3⟩ := findE_mem c2
      obtain ⟨t, ht, hT⟩ := hP2.some (by rw [ents_marks]; exact hn) e2
      refine ⟨_, rfl, _, rfl, dd, .ref t, rfl, ?_, t, _, 1, .int e.p, rfl, rfl, hT, atI_nat (j := 1) rfl, _, rfl, rfl, _, rfl, itT ?_ ?_⟩
      · rw [← ht, e3]
        exact DGet.k (k := Sum.inl b) hd2
      · have ne : ¬ e.p = p := fun z => hb (.inr ⟨c1, e, e2, e3, z⟩)
        rw [decide_eq_false (fun z => ne (V.int.inj z))]
        rfl
      · exact qn no H2 _ smA
    refine ⟨_, rfl, rfl, _, rfl, andT (fun c hk => ?_) ?_⟩
    · have b0 : ¬ b = 0 := fun z => by
        rw [decide_eq_true (by rw [z])] at c
        exact absurd c (by decide)
      obtain ⟨c1, e, e2, rfl, e4⟩ := hb.resolve_left b0
      obtain ⟨t, ht, hT⟩ := hP2.some (by rw [ents_marks]; exact hn) e2
      have c2 : e.m ∈ marks f := mem_marks.mpr ⟨e, e2, rfl⟩
      refine ⟨_, rfl, _, rfl, rfl, _, rfl, itF (decide_eq_false (fun z => c1 (V.int.inj z))) ?_⟩
      refine ⟨_, rfl, _, rfl, dd, _, rfl, DGet.k (k := Sum.inl e.m) hd2, _, rfl, itF (by rw [eP e.m, decide_eq_true c2]; rfl) ?_⟩
      refine ⟨_, rfl, _, rfl, dd, .ref t, rfl, ?_, t, _, 1, .int e.p, rfl, rfl, hT, atI_nat (j := 1) rfl, _, rfl, rfl, _, rfl, ?_⟩
      · rw [← ht]
        exact DGet.k (k := Sum.inl e.m) hd2
      · rw [decide_eq_true (show V.int e.p = V.int p by rw [e4])]
        exact hk
    refine ⟨_, rfl, rfl, _, rfl, itF (by decide +kernel) ?_⟩
    exact qy ⟨c, hpar, hin, hb⟩ H2 smA

end
end Gf
set_option Elab.async false
set_option linter.all false
set_option maxRecDepth 100000
set_option maxHeartbeats 4000000
namespace Gf
open PySem PySem.Spec PyProof.Rows L2
/-- marks above 0, words -/
def gOk : FS → Prop
  | .nil => True
  | .cons m w k r => 0 < m ∧ okW w ∧ gOk k ∧ gOk r
def Ws (K : PySem.W.Frag) (H : Hp) : List FS → List V → Prop
  | [], vs => vs = []
  | g :: l, vs => ∃ (q : Addr) (rest : List V), vs = .ref q :: rest ∧ FoA K H g q ∧ Ws K H l rest
def cnM (z : Int) : List FS → Nat
  | [] => 0
  | g :: l => List.count z (marks g) + cnM z l
def suM : List FS → Nat
  | [] => 0
  | g :: l => (marks g).length + suM l
def meM : List FS → Nat
  | [] => 0
  | g :: l => 2 * (marks g).length + 1 + meM l
def alM : List FS → Prop
  | [] => True
  | g :: l => gOk g ∧ alM l
section
variable {P : Program} {w : World} {K : PySem.W.Frag} {mg : Str → Option Value} {base : Heap} {lt mt : Tok} {H H' : Hp}
theorem Ws.mono (h : Kp K H H') : ∀ {l : List FS} {vs : List V}, Ws K H l vs → Ws K H' l vs
  | [], _, q => q
  | _ :: _, _, ⟨q, rest, e, h1, h2⟩ => ⟨q, rest, e, h1.mono h, Ws.mono h h2⟩
theorem Ws.len : ∀ {l : List FS} {vs : List V}, Ws K H l vs → vs.length = l.length
  | [], _, q => by rw [show _ = [] from q]; rfl
  | _ :: _, _, ⟨q, rest, e, h1, h2⟩ => by rw [e, List.length_cons, List.length_cons, Ws.len h2]
theorem Ws.snoc {g : FS} {q : Addr} (hq : FoA K H g q) : ∀ {l : List FS} {vs : List V}, Ws K H l vs → Ws K H (l ++ [g]) (vs ++ [.ref q])
  | [], _, z => by
    rw [show _ = [] from z]
    exact ⟨q, [], rfl, hq, rfl⟩
  | _ :: _, _, ⟨q', rest, e, h1, h2⟩ => by
    rw [e]
    exact ⟨q', _, rfl, h1, Ws.snoc hq h2⟩
theorem Ws.unsnoc {g : FS} : ∀ {l : List FS} {vs : List V}, Ws K H (l ++ [g]) vs → ∃ q vs', vs = vs' ++ [.ref q] ∧ FoA K H g q ∧ Ws K H l vs'
  | [], _, ⟨q, rest, e, h1, h2⟩ => by
    rw [show rest = [] from h2] at e
    exact ⟨q, [], e, h1, rfl⟩
  | _ :: _, _, ⟨q', rest, e, h1, h2⟩ => by
    obtain ⟨q, vs', e', h3, h4⟩ := Ws.unsnoc h2
    exact ⟨q, .ref q' :: vs', by rw [e, e']; rfl, h3, q', vs', rfl, h1, h4⟩
theorem cnM_snoc (z : Int) (g : FS) : ∀ l, cnM z (l ++ [g]) = cnM z l + List.count z (marks g)
  | [] => by show List.count z (marks g) + 0 = 0 + _; omega
  | a :: l => by
    show List.count z (marks a) + cnM z (l ++ [g]) = _
    rw [cnM_snoc z g l]
    show _ = List.count z (marks a) + cnM z l + _
    omega
theorem suM_snoc (g : FS) : ∀ l, suM (l ++ [g]) = suM l + (marks g).length
  | [] => by show (marks g).length + 0 = 0 + _; omega
  | a :: l => by
    show (marks a).length + suM (l ++ [g]) = _
    rw [suM_snoc g l]
    show _ = (marks a).length + suM l + _
    omega
theorem meM_snoc (g : FS) : ∀ l, meM (l ++ [g]) = meM l + (2 * (marks g).length + 1)
  | [] => by show 2 * (marks g).length + 1 + 0 = 0 + _; omega
  | a :: l => by
    show 2 * (marks a).length + 1 + meM (l ++ [g]) = _
    rw [meM_snoc g l]
    show _ = 2 * (marks a).length + 1 + meM l + _
    omega
theorem alM_snoc (g : FS) : ∀ l, alM (l ++ [g]) ↔ alM l ∧ gOk g
  | [] => ⟨fun h => ⟨trivial, h.1⟩, fun h => ⟨h.2, trivial⟩⟩
  | a :: l => by
    show gOk a ∧ alM (l ++ [g]) ↔ (gOk a ∧ alM l) ∧ gOk g
    rw [alM_snoc g l, and_assoc]
theorem val_keys : ∀ {ks : List Int} {m : Int}, m ∉ ks → valV (ks.map fun z => ((Sum.inl z : Key), V.bl true)) (Sum.inl m) = none
  | [], _, _ => rfl
  | a :: l, m, h => by
    rw [List.map_cons, valV_neg (by intro z; exact h (List.mem_cons.mpr (.inl (Sum.inl.inj z).symm)))]
    exact val_keys fun z => h (List.mem_cons_of_mem _ z)
theorem count_nd {z : Int} : ∀ {l : List Int}, l.Nodup → List.count z l ≤ 1
  | [], _ => by simp
  | a :: l, h => by
    obtain ⟨h1, h2⟩ := List.nodup_cons.mp h
    have ih := count_nd (z := z) h2
    rw [List.count_cons]
    by_cases e : a = z
    · subst e
      rw [List.count_eq_zero.mpr h1]
      simp
    · have : (a == z) = false := by simpa using e
      rw [this]
      simpa using ih
theorem sc_is_plot_value : FnScope ["value", "marks", "waiting", "row", "spot", "mark", "word", "children"] ["value"] (defScope s_is_plot_value) := ⟨rfl, rfl, rfl, by decide +kernel, rfl, by decide +kernel, by decide +kernel⟩
def sp_plot (K : PySem.W.Frag) : Sp := fun vs H Q _ => ∃ (a : Addr) (f : FS), vs = [.ref a] ∧ FoA K H f a ∧ (marks f).length ≤ 900 ∧ (marks f).Nodup ∧ gOk f ∧ ∀ H', Same H H' → Q (.bl true) H'
theorem ok_is_plot_value (D : Df K mg "is_plot_value" s_is_plot_value ["value"]) (B : Bi mg) (G_has_size : Pr P w K mg base CX0 1 "has_size" ["value", "size"] (sp_size K)) (G_is_int : Pr P w K mg base CX0 1 "is_int" ["value"] sp_int)
    (G_is_word : Pr P w K mg base CX0 1 "is_word" ["value"] sp_word) : Pr P w K mg base CX0 2 "is_plot_value" ["value"] (sp_plot K) := by
  refine D.ok sc_is_plot_value (fun vs H Q E h => ?_) (fun fa cdv A outer s H vs Q E hr h => ?_)
  · obtain ⟨a, f, rfl, _⟩ := h; rfl
  obtain ⟨a, f, rfl, hf, hlen, hn, hg, q⟩ := h
  refine ⟨_, (pss_cons (ps_set (i := 1) sc_is_plot_value.nd rfl (Or.inl rfl) pe_dnewK)
    (pss_cons (ps_set (i := 2) sc_is_plot_value.nd rfl (Or.inl rfl) (pe_lst (pa_cons (pv 0) pa_nil)))
    (pss_cons (ps_while PassesOwn.never (pt_cmpR op_gt (pe_callB call_len_seq (by rfl) B.len PySem.boot_len (pa_cons (pv 2) pa_nil)) pe_int (nomark _)) (pss_cons (ps_set (i := 3) sc_is_plot_value.nd rfl (Or.inl rfl) (pe_bm0 PySem.F.plainAttrs_list PySem.F.slot_list_pop PySem.F.type_list_pop mt_pop (pv 2)))
    (pss_cons (ps_if (pt_not (pt_val (pe_callB call_isi (by rfl) B.isinstance (by decide +kernel) (pa_cons (pv 3) (pa_cons (pe_bltn (v := .ty "tuple") (by rfl) B.ttuple (by decide +kernel) rfl) pa_nil))))) (pss_one (ps_ret pe_bl)) pss_nil)
    (pss_one (ps_for PassesOwn.never rfl (pi_tup (pv 3)) (pg_name (i := 4) sc_is_plot_value.nd rfl (Or.inl rfl)) (pss_cons (ps_if (pt_not (pt_val (pe_own G_has_size (hr.mono (by first | decide | omega)) (by rfl) pass0 (pa_cons (pv 4) (pa_cons pe_int pa_nil))))) (pss_one (ps_ret pe_bl)) pss_nil)
    (pss_cons (ps_asg (pv 4) (pg_tup rfl (pgs_cons (pg_name (i := 5) sc_is_plot_value.nd rfl (Or.inl rfl)) (pgs_cons (pg_name (i := 6) sc_is_plot_value.nd rfl (Or.inl rfl)) (pgs_cons (pg_name (i := 7) sc_is_plot_value.nd rfl (Or.inl rfl)) pgs_nil)))))
    (pss_cons (ps_if (PW.pt (pw_or (pt_not (pt_val (pe_own G_is_int (hr.mono (by first | decide | omega)) (by rfl) pass0 (pa_cons (pv 5) pa_nil)))) (pw_or (pt_cmpR op_lt (pv 5) pe_int (nomark _)) (pw_or (pt_cmp (pc_din (hu_of hr) (pv 5) (pv 1))) (pw_or1 (pt_not (pt_val (pe_own G_is_word (hr.mono (by first | decide | omega)) (by rfl) pass0 (pa_cons (pv 6) pa_nil))))))))) (pss_one (ps_ret pe_bl)) pss_nil)
    (pss_cons (ps_dput (hu_of hr) (pv 1) (pv 5) pe_bl rfl)
    (pss_one (ps_expr (pe_bm PySem.F.plainAttrs_list PySem.F.slot_list_append PySem.F.type_list_append mt_append (pv 2) (pa_cons (pv 7) pa_nil)))))))))))))
    (pss_one (ps_ret pe_bl))))), ?_⟩
  refine fun d nd => ⟨_, rfl, (by show 1 ≤ sizeLine; decide), fun o no => ?_⟩
  have no' : H o = none := (same_upd nd).free no
  have hdo : d ≠ o := ne_of_none (upd_same (H := H) (o := .dK [])) no
  refine ⟨fun n σ H' => ∃ (gs : List FS) (wl : List V) (ks : List Int) (s3 s4 s5 s6 s7 : Option V), σ = [some (.ref a), some (.ref d), some (.ref o), s3, s4, s5, s6, s7] ∧ Same H H' ∧ H' d = some (.dK (ks.map fun z => ((Sum.inl z : Key), V.bl true))) ∧ H' o = some (.lst wl) ∧
      Ws K H' gs wl ∧ meM gs = n ∧ ks.length + suM gs ≤ 900 ∧ gs.length ≤ ks.length + 1 ∧ alM gs ∧ (∀ z, List.count z ks + cnM z gs ≤ 1),
    ⟨meM [f], [f], [.ref a], [], none, none, none, none, none, rfl, ((same_upd nd).trans (same_upd no)), ?_, upd_same, ⟨a, [], rfl, hf.mono ((same_upd nd).trans (same_upd no)).kp, rfl⟩, rfl, ?_, Nat.le_refl _, ⟨hg, trivial⟩, fun z => ?_⟩, fun n σ H' hW => ?_⟩
  · rw [upd_ne hdo, upd_same]
    rfl
  · show 0 + ((marks f).length + 0) ≤ 900
    omega
  · show 0 + (List.count z (marks f) + 0) ≤ 1
    have := count_nd (z := z) hn
    omega
  obtain ⟨gs, wl, ks, s3, s4, s5, s6, s7, rfl, sm, hd, ho, hW, hme, hsu, hgl, hal, hcn⟩ := hW
  have hwl := hW.len
  refine ⟨_, rfl, o, wl, rfl, .inl (.inl (.inl ho)), _, _, rfl, rfl, _, rfl, ite2 (fun c => ?_) (fun c => ?_)⟩
  · have c' : 0 < gs.length := by
      have := of_decide_eq_true c
      omega
    obtain ⟨gs', g, rfl⟩ : ∃ gs' g, gs = gs' ++ [g] := by
      rcases List.eq_nil_or_concat gs with e | ⟨l, b, e⟩
      · rw [e] at c'; exact absurd c' (Nat.lt_irrefl _)
      · exact ⟨l, b, by rw [e, List.concat_eq_append]⟩
    obtain ⟨qa, wl', rfl, ⟨ks', hq1, hq2⟩, hW'⟩ := hW.unsnoc
    rw [meM_snoc] at hme
    rw [suM_snoc] at hsu
    rw [alM_snoc] at hal
    rw [List.length_append, List.length_singleton] at hgl
    have hkl := hq2.len
    refine ⟨fun σ' H2 => ∃ (gs2 : List FS) (wl2 : List V) (ks2 : List Int) (s3 s4 s5 s6 s7 : Option V), σ' = [some (.ref a), some (.ref d), some (.ref o), s3, s4, s5, s6, s7] ∧ Same H H2 ∧ H2 d = some (.dK (ks2.map fun z => ((Sum.inl z : Key), V.bl true))) ∧ H2 o = some (.lst wl2) ∧
        Ws K H2 gs2 wl2 ∧ meM gs2 < n ∧ ks2.length + suM gs2 ≤ 900 ∧ gs2.length ≤ ks2.length + 1 ∧ alM gs2 ∧ (∀ z, List.count z ks2 + cnM z gs2 ≤ 1), fun σ' H2 hN => ?_, ?_⟩
    · obtain ⟨gs2, wl2, ks2, t3, t4, t5, t6, t7, h1, h2, h3, h4, h5, h6, h7⟩ := hN
      exact ⟨meM gs2, h6, gs2, wl2, ks2, t3, t4, t5, t6, t7, h1, h2, h3, h4, h5, rfl, h7⟩
    -- row = waiting.pop()
    refine ⟨_, rfl, .inl ⟨rfl, _, .inl (.inl ho)⟩, o, _, .ref qa, rfl, rfl, ho, ?_, ?_⟩
    · rw [List.length_append, List.length_singleton, Nat.add_sub_cancel, List.getElem?_append_right (Nat.le_refl _), Nat.sub_self]
      rfl
    rw [List.dropLast_concat]
    have kp1 : Kp K H' (upd H' o (.lst wl')) := Kp.lst ho
    have sm1 : Same H (upd H' o (.lst wl')) := sm.over no'
    have hd1 : (upd H' o (.lst wl')) d = some (.dK (ks.map fun z => ((Sum.inl z : Key), V.bl true))) := by rw [upd_ne hdo]; exact hd
    have ho1 : (upd H' o (.lst wl')) o = some (.lst wl') := upd_same
    have hW1 := hW'.mono kp1
    have hr1 := kp1.t _ _ hq1
    have hr2 := hq2.mono kp1
    generalize upd H' o (.lst wl') = H1 at kp1 sm1 hd1 ho1 hW1 hr1 hr2 ⊢
    refine ⟨_, rfl, .ref qa, .ty "tuple", _, _, true, rfl, .ty _, tyT hr1, kit_ty (by decide +kernel), _, rfl, ?_⟩
    refine ⟨.ref qa, rfl, qa, rfl, ⟨ks', hr1⟩, for_tup (K := K) (a := qa) (xs := ks') (fun i σ' H2 => ∃ (g2 : FS) (gs2 : List FS) (wl2 : List V) (ks2 : List Int) (s4 s5 s6 s7 : Option V), σ' = [some (.ref a), some (.ref d), some (.ref o), some (.ref qa), s4, s5, s6, s7] ∧
        Same H H2 ∧ Kp K H1 H2 ∧ H2 d = some (.dK (ks2.map fun z => ((Sum.inl z : Key), V.bl true))) ∧ H2 o = some (.lst wl2) ∧ SpA K H2 g2 (ks'.drop i) ∧ gOk g2 ∧
        Ws K H2 gs2 wl2 ∧ meM gs2 + 2 * (marks g2).length < n ∧ ks2.length + suM gs2 + (marks g2).length ≤ 900 ∧ gs2.length ≤ ks2.length ∧ alM gs2 ∧ (∀ z, List.count z ks2 + cnM z gs2 + List.count z (marks g2) ≤ 1))
      ⟨g, gs', wl', ks, _, _, _, _, rfl, sm1, Kp.refl, hd1, ho1, hr2, hal.2, hW1, by omega, by omega, by omega, hal.1, fun z => ?_⟩ (fun i σ' H2 _ hp => ?_) (fun i x σ' H2 hx hp => ?_) (fun σ' H2 hp => ?_)⟩
    · have := hcn z
      rw [cnM_snoc] at this
      omega
    · obtain ⟨g2, gs2, wl2, ks2, t4, t5, t6, t7, _, _, kp, _⟩ := hp
      exact kp.t _ _ hr1
    · obtain ⟨g2, gs2, wl2, ks2, t4, t5, t6, t7, rfl, sm2, kp2, hd2, ho2, hS, hgo, hW2, hm2, hs2, hl2, ha2, hc2⟩ := hp
      rw [drop_at hx] at hS
      cases g2 with
      | nil => cases hS
      | cons m u k r =>
        obtain ⟨pa, qa2, kk, rest, e, h1, h2, h3, h4⟩ := hS
        obtain ⟨rfl, rfl⟩ := List.cons.inj e
        have hml : (marks (Fo.cons m u k r)).length = (marks k).length + (marks r).length + 1 := by
          show (m :: (marks k ++ marks r)).length = _
          rw [List.length_cons, List.length_append]
        have hmc : ∀ z, List.count z (marks (Fo.cons m u k r)) = List.count z (marks k) + List.count z (marks r) + (if m == z then 1 else 0) := fun z => by
          show List.count z (m :: (marks k ++ marks r)) = _
          rw [List.count_cons, List.count_append]
        have wl2l := hW2.len
        have nk : m ∉ ks2 := fun z => by
          have c1 := hc2 m
          rw [hmc m] at c1
          have c2 := List.count_pos_iff.mpr z
          simp at c1
          omega
        -- has_size(spot, 3)
        refine ⟨_, rfl, pa, _, 3, rfl, h1, _, rfl, ?_⟩
        -- mark, word, children = spot
        refine ⟨_, rfl, pa, _, rfl, h1, rfl, _, _, rfl, _, _, rfl, _, _, rfl, rfl, ?_⟩
        refine ⟨_, rfl, m, rfl, _, rfl, ?_⟩
        refine ⟨_, rfl, _, _, rfl, rfl, _, rfl, itF (decide_eq_false (by have := hgo.1; omega)) ?_⟩
        refine ⟨_, rfl, _, rfl, d, _, rfl, DGet.k (k := Sum.inl m) hd2, _, rfl, itF (by rw [val_keys nk]; rfl) ?_⟩
        refine ⟨_, rfl, u, rfl, .inl ⟨hgo.2.1, fun H3 sm3 => ⟨_, rfl, ?_⟩⟩⟩
        have hd3 := sm3 _ _ hd2
        have ho3 := sm3 _ _ ho2
        -- marks[mark] = True
        refine ⟨_, rfl, _, rfl, d, _, rfl, DPut.k (k := Sum.inl m) hd3 ?_, ?_⟩
        · rw [List.length_map]
          exact fin_le (by omega)
        rw [putK_new _ (val_keys nk)]
        have kp4 : Kp K H3 (upd H3 d (.dK (ks2.map (fun z => ((Sum.inl z : Key), V.bl true)) ++ [(Sum.inl m, V.bl true)]))) := Kp.dK hd3
        have ho4 : (upd H3 d (.dK (ks2.map (fun z => ((Sum.inl z : Key), V.bl true)) ++ [(Sum.inl m, V.bl true)]))) o = some (.lst wl2) := by
          rw [upd_ne (Ne.symm hdo)]
          exact ho3
        -- waiting.append(children)
        refine ⟨_, rfl, .inl ⟨rfl, _, .inl (.inl ho4)⟩, _, rfl, o, wl2, _, rfl, rfl, ho4, fin_le (by omega), ?_⟩
        have kp5 := Kp.lst (K := K) (o := .lst (wl2 ++ [.ref qa2])) ho4
        have kpA := (sm3.kp.trans kp4).trans kp5
        refine ⟨r, gs2 ++ [k], wl2 ++ [.ref qa2], ks2 ++ [m], _, _, _, _, rfl, ((sm2.trans sm3).over nd).over no', kp2.trans kpA, ?_, upd_same, h4.mono kpA, hgo.2.2.2, (hW2.mono kpA).snoc ⟨kk, kpA.t _ _ h2, h3.mono kpA⟩, ?_, ?_, ?_, ?_, fun z => ?_⟩
        · rw [upd_ne hdo, upd_same, List.map_append]
          rfl
        · rw [meM_snoc]
          omega
        · rw [suM_snoc, List.length_append, List.length_singleton]
          omega
        · rw [List.length_append, List.length_append, List.length_singleton, List.length_singleton]
          omega
        · exact (alM_snoc _ _).mpr ⟨ha2, hgo.2.2.1⟩
        · have c1 := hc2 z
          rw [hmc z] at c1
          rw [cnM_snoc, List.count_append, List.count_singleton]
          omega
    · obtain ⟨g2, gs2, wl2, ks2, t4, t5, t6, t7, rfl, sm2, kp2, hd2, ho2, hS, hgo, hW2, hm2, hs2, hl2, ha2, hc2⟩ := hp
      exact ⟨gs2, wl2, ks2, _, _, _, _, _, rfl, sm2, hd2, ho2, hW2, by omega, by omega, by omega, ha2, fun z => by have := hc2 z; omega⟩
  · exact q H' sm
theorem sc_need_plot : FnScope ["value"] ["value"] (defScope s_need_plot) := ⟨rfl, rfl, rfl, by decide +kernel, rfl, by decide +kernel, by decide +kernel⟩
def sp_need (K : PySem.W.Frag) : Sp := fun vs H Q _ => ∃ (a : Addr) (f : FS), vs = [.ref a] ∧ FoA K H f a ∧ (marks f).length ≤ 900 ∧ (marks f).Nodup ∧ gOk f ∧ ∀ H', Same H H' → Q .non H'
theorem ok_need_plot (D : Df K mg "need_plot" s_need_plot ["value"]) (G_is_plot_value : Pr P w K mg base CX0 2 "is_plot_value" ["value"] (sp_plot K)) : Pr P w K mg base CX0 3 "need_plot" ["value"] (sp_need K) := by
  refine D.ok sc_need_plot (fun vs H Q E h => ?_) (fun fa cdv A outer s H vs Q E hr h => ?_)
  · obtain ⟨a, f, rfl, _⟩ := h; rfl
  obtain ⟨a, f, rfl, hf, hlen, hn, hg, q⟩ := h
  refine ⟨_, (pss_one (ps_if (pt_not (pt_val (pe_own G_is_plot_value (hr.mono (by first | decide | omega)) (by rfl) pass0 (pa_cons (pv 0) pa_nil)))) (pss_one ps_never) pss_nil)), ?_⟩
  exact ⟨_, rfl, a, f, rfl, hf, hlen, hn, hg, fun H' sm => ⟨_, rfl, q H' sm⟩⟩
end
end Gf
set_option Elab.async false
set_option linter.all false
set_option maxRecDepth 100000
set_option maxHeartbeats 4000000
/-! InvalidScript(value): its __init__ (super().__init__(a text), then self.value = value), made, raised, its field read -/
namespace Gf
open PySem PySem.Spec PyProof.Rows L2
abbrev sInit : Stmt := inClass (top 3) 0
/-- what the written part says of InvalidScript -/
structure IsTxt (P : Program) (K : PySem.W.Frag) (mg : Str → Option Value) (C fI cda cc : Addr) : Prop where
  gC : mg "InvalidScript" = some (.ref C)
  gS : mg "super" = none
  cls : ∃ nm q N bs bm sn sub ab col dd k0 k1 k2 k3 k5, K.lookup C = some (excClassObj nm q C N bs bm true sn sub ab col dd k0 k1 k2 k3 k5 "ValueError.__new__") ∧ PySem.HandSPX.refsVE bm = true
  sa : PySem.W.findIn K (.ref C) "__setattr__" = some (some (.builtin "object.__setattr__"))
  xf : XfC K C
  noV : PySem.W.findIn K (.ref C) "value" = some none
  iC : PySem.W.findIn K (.ref C) "__init__" = some (some (.ref fI))
  tI : PySem.W.typeIn K (.ref fI) = some (.type "function")
  kC : PySem.W.keepIn K (.ref C) = true
  tyC : PySem.W.typeIn K (.ref C) = some (.type "type")
  te : PySem.W.exmOne K (.ref C) (.ref C) = some true
  sup : PySem.W.ks_superIn K C C "__init__" = some (some (.builtin "ValueError.__init__"))
  sVE : PySem.W.subIn K (.ref C) (.type "ValueError") = some true
  sC : PySem.W.mroIn K C (.ref C) = some true
  op : PySem.W.nsIn K cStatics "thirdparty.any" = some none
  fn : ∃ (oc : Value) (od : Option Addr) (doc pm : Value) (an : Option Addr) (ct : Value) (osl : Array (Option Value)),
    K.lookup fI = some ⟨oc, od, .func (PySem.W.ksFn "__init__" "InvalidScript.__init__" (defArgs sInit) (defBody sInit) (defScope sInit) .none .none doc pm an (.ref cda) ct cc), osl⟩ ∧ PySem.W.codeIn K (.ref cda) "InvalidScript.__init__" = true
  code : ∃ (ccl : Value) (cdd : Option Addr) (vs : Array Value) (ccs : Array (Option Value)) (file : Str) (tf : Tok), K.lookup cda = some ⟨ccl, cdd, .fields vs, ccs⟩ ∧ vs[2]? = some (.str file tf) ∧ ((P.main.file : Str) == file) = true
  cell : ∃ (cl : Value) (cld : Option Addr) (csl : Array (Option Value)), K.lookup cc = some ⟨cl, cld, .cell (some (.ref C)), csl⟩
  tp : (P.main.scope.names.lookup ("super" : Str)).isSome = false
/-- what __init__ leaves of a fresh one at x -/
structure InitX (h h' : Heap) (x C dx : Addr) (v : Value) : Prop where
  keep : ∀ b o, b ≠ x → h.get? b = some o → h'.get? b = some o
  obj : ∃ t1 : Addr, h'.get? x = some { cls := .ref C, dict := some dx, data := .fields #[.ref t1, .none, .none, .none, .bool false, .none] }
  dbig : h.objs.size ≤ dx
  dne : dx ≠ x
  ns : h'.Ns1 dx (fun y => if y = "value" then some v else none)
structure MadeX (h h' : Heap) (e C d : Addr) (v : Value) : Prop where
  keep : ∀ b o, h.get? b = some o → h'.get? b = some o
  new : h.objs.size ≤ e
  obj : ∃ oe vs, h'.get? e = some oe ∧ oe.cls = .ref C ∧ oe.dict = some d ∧ oe.data = .fields vs ∧ vs[1]? = some .none
  dbig : h.objs.size ≤ d
  dne : d ≠ e
  ns : h'.Ns1 d (fun y => if y = "value" then some v else none)
section
open PySem.W PySem.Calls PySem.HandSPX
variable {prog : Program} {w : World} {A : Around} {E : Value → Shared → Prop} {R : Result → Shared → Prop} {s : Shared} {K : Frag} {mg : Str → Option Value} {C fI cda cc : Addr}
/-- the built-in __init__, bound, called with a text -/
theorem bound_init {nm q : Str} {N : Addr} {bs bm : List Value} {sn : List Str} {sub : List Value} {ab : Bool} {col : Option Bool} {dd : Option Addr} {k0 k1 k2 k3 k5 : Option Value} {u e t0 : Addr} {rest : List Value} {h : Heap} {g : Array GenState} {d : Drawn} {t : Nat} {os : OsState} {Q : Value → Shared → Prop}
    (hC : h.get? C = some (excClassObj nm q C N bs bm true sn sub ab col dd k0 k1 k2 k3 k5 "ValueError.__new__")) (he : h.get? e = some (excO C t0)) (hu : h.get? u = some (kxs_mw "ValueError.__init__" e)) (hl : rest.length ≤ sizeLine)
    (hq : ∀ h' t1, (∀ b o, b ≠ e → h.get? b = some o → h'.get? b = some o) → h'.get? e = some (excO C t1) → Q .none ⟨h', g, d, t, os⟩) :
    wpAny (model prog w) A (call (.ref u) rest) Q E ⟨h, g, d, t, os⟩ := by
  refine wpAny_call (codeAny_of_tree ?_)
  show wpAny _ A.in1 (callAny (.ref u) ⟨rest, []⟩) _ _ _
  simp only [callAny]
  refine wpAny_bind (wpAny_load hu ?_)
  simp only [kxs_mw, show (Value.type "method-wrapper" == Value.type "method" || Value.type "method-wrapper" == Value.type "builtin_function_or_method" ||
    Value.type "method-wrapper" == Value.type "method-wrapper") = true by decide, if_true]
  refine KFB.if_so (by decide) ?_
  refine wpAny_bind (check_bound_init F.excBase_ValueError.toExcCallFacts hC he rfl ?_)
  refine wpAny_bind (wpAny_pure (wpAny_pure ?_))
  refine ⟨Code.quiet_builtin _ (by decide +kernel), codeAny_builtin F.excBase_ValueError.initEntry ?_⟩
  exact exc_init_tree (cls := .ref C) (t0 := t0) (dv := none) (c2 := .none) (c3 := .none) (b4 := .bool false) he hl fun h' k e' _ => hq h' _ k e'
theorem is_init (T : IsTxt prog K mg C fI cda cc) {x t0 : Addr} {v : Value} (X : K.In s.heap) (hns : s.heap.Ns mainGlobals mg) (hbt : ∃ mb, s.heap.Ns builtinsNs mb ∧ ∀ x : Str, x ≠ "__name__" → mb x = bootBuiltins x) (hlim : s.heap.NoLimit)
    (hx : s.heap.get? x = some (excO C t0)) (hnx : K.lookup x = none) (hroom : A.depth < recursionLimit)
    (hq : ∀ h' tk dx, InitX s.heap h' x C dx v → R (.ok (.ret .none)) { s with heap := h', toks := tk }) :
    codeAny (model prog w) A (.call (.ref fI) ⟨[.ref x, v], []⟩) R s := by
  obtain ⟨oc, od, doc, pm, an, ct, osl, ho, hcd⟩ := T.fn
  obtain ⟨ccl, cdd, vs, ccs, file, tf, hcode, hvs, hfile⟩ := T.code
  obtain ⟨cl, cld, csl, hcell⟩ := T.cell
  obtain ⟨nm, q, N, bs, bm, sn, sub, ab, col, dd, k0, k1, k2, k3, k5, hC, hbm⟩ := T.cls
  obtain ⟨mb, hb1, hb2⟩ := hbt
  have hcl : clsIn K C = some { name := nm, bases := bs, mro := .ref C :: bm, ns := N, qualname := q, hasDict := true, slotNames := sn, subclasses := sub, abstract := ab, collection := col, hasDel := false } := by
    unfold clsIn
    rw [hC]
  have hxC : x ≠ C := fun z => by
    rw [z, hC] at hnx
    cases hnx
  refine ks_codeAny_call_defAt (fd := ksFn "__init__" "InvalidScript.__init__" (defArgs sInit) (defBody sInit) (defScope sInit) .none .none doc pm an (.ref cda) ct cc) (body := defBody sInit) (binds := [("self", .ref x), ("value", v)])
    hroom (X _ _ ho) rfl hlim (codeRec_of X hcd) rfl (BindsTo.of_eq (by first | rfl | with_unfolding_all rfl)) (show ∀ y ∈ (defScope sInit).names, y.2 ≠ .cell from by decide +kernel) (by
      intro y hy
      rcases List.mem_cons.mp hy with e | hy
      · rw [e]; rfl
      · rw [List.mem_singleton.mp hy]; rfl) (fun h₁ hn₁ kp₁ => ?_) rfl rfl rfl
  have X₁ : K.In h₁ := X.keeps kp₁
  have hx₁ := kp₁ _ _ hx
  have hC₁ := X₁ _ _ hC
  have hD2 : (excClassObj nm q C N bs bm true sn sub ab col dd k0 k1 k2 k3 k5 "ValueError.__new__").data = .cls { name := nm, bases := bs, mro := .ref C :: bm, ns := N, qualname := q, hasDict := true, slotNames := sn, subclasses := sub, abstract := ab, collection := col, hasDel := false } := rfl
  refine ks_wpAt_execs_cons (ks_wpAt_Expr_any (ks_wpAt_MethodCall ?_))
  refine ks_wpAt_super_base (f := fI) (cc := cda) (ar := { arg := "self", annotation := none, pos := ⟨11, 17, 11, 21⟩ }) (by rfl) (by rfl) (by decide +kernel) rfl (X₁ _ _ ho) rfl (by rfl) rfl (X₁ _ _ hcode) rfl hvs hfile T.tp ?_
  refine ks_loadName_global (by rfl) (by rfl) (loadGlobal_builtin (hns.keeps kp₁) T.gS (hb1.keeps kp₁) ((hb2 _ (by decide +kernel)).trans (by first | boot_by_name | rfl | kernel_rfl)) ⟨rfl, ?_⟩)
  refine wpAny_loadName_free (by rfl) (by rfl) (by rfl) ⟨_, X₁ _ _ hcell, rfl⟩ ?_
  refine wpAny_loadName_local (by rfl) (by rfl) hn₁ (by rfl) ?_
  refine ks_wpAny_isType_cls hC₁ hD2 ⟨rfl, ?_⟩
  refine ks_wpAny_call_super hC₁ hD2 hx₁ rfl (fun c e => by cases e) (looks_mroIn X₁ T.sC) (fun h₂ hso kp₂ => ?_)
  have X₂ : K.In h₂ := X₁.keeps kp₂
  have hx₂ := kp₂ _ _ hx₁
  have hm := T.sup
  unfold ks_superIn at hm
  rw [hcl] at hm
  have hI : Looks (model prog w) h₂ (isInstance (.ref x) (.type "ValueError")) true := (show InstAt h₂ x (excO C t0) C none from ⟨hx₂, rfl, rfl, trivial⟩).type.andThen (looks_subIn X₂ T.sVE)
  refine kxs_getMethod kxs_ValueError hso (looks_opaque X₂ T.op) (l₀ := .ref C :: bm) ?_ rfl X₂ hm hI hxC (by decide +kernel) ?_
  · exact fun A Q E s k q => wpAny_bind ((looks_clsIn X₂ hcl) A _ E s k (wpAny_pure q))
  -- the bound __init__ is called with the text
  have kp₃ : ∀ b o, h₂.get? b = some o → (h₂.push (kxs_mw "ValueError.__init__" x)).get? b = some o := fun b o e => Heap.get?_push_of_some _ e
  have hu : (h₂.push (kxs_mw "ValueError.__init__" x)).get? h₂.objs.size = some (kxs_mw "ValueError.__init__" x) := Heap.get?_push_at rfl rfl
  refine kxs_callWith (i := "ValueError.__init__") (x := x) (by rfl) ?_
  refine evalArgs_plain (Calls.spliced_cons (Calls.Constant_str (k := 0) (pos := ⟨12, 25, 12, 41⟩) (Calls.spliced_nil ⟨hu, ?_⟩)))
  refine bound_init (kp₃ _ _ (X₂ _ _ hC)) (kp₃ _ _ hx₂) hu (by show 1 ≤ sizeLine; decide) fun h₄ t4 kp₄ hx₄ => ?_
  have old : ∀ b o, b ≠ x → s.heap.get? b = some o → h₄.get? b = some o := fun b o hb e => kp₄ b o hb (kp₃ b o (kp₂ b o (kp₁ b o e)))
  have xlt := Heap.lt_size hx
  have X₄ : K.In h₄ := fun b o e => old b o (fun z => by rw [z, hnx] at e; cases e) (X b o e)
  have hn₄ : h₄.Ns s.heap.objs.size (fun y => ([(("self" : Str), Value.ref x), ("value", v)] : List (Str × Value)).reverse.lookup y) := by
    obtain ⟨oL, es, ep, hL, r⟩ := hn₁
    exact ⟨oL, es, ep, kp₄ _ _ (Nat.ne_of_gt xlt) (kp₃ _ _ (kp₂ _ _ hL)), r⟩
  -- self.value = value
  show PySem.wpAt _ _ _ (execs _ _) _ _ _
  refine ks_wpAt_execs_cons (ks_wpAt_Assign_Attr (wpAt_of_wpAny ?_))
  refine wpAny_Name (wpAny_loadName_local (by rfl) (by rfl) hn₄ (v := v) (by first | rfl | with_unfolding_all rfl) ?_) (by decide +kernel)
  refine wpAny_Name (wpAny_loadName_local (by rfl) (by rfl) hn₄ (v := .ref x) (by first | rfl | with_unfolding_all rfl) ?_) (by decide +kernel)
  refine set_plain X₄ (ox := excO C t4) (od := none) ⟨hx₄, rfl, rfl, trivial⟩ T.sa ?_
  refine exc_osa X₄ hx₄ hcl (show refsVE (.ref C :: bm) = true from hbm) rfl T.noV (fun h₅ tk₅ dx k₅ dn dne hx₅ hn₅ => ?_)
  show PySem.wpAt _ _ _ (execs _ _) _ _ _
  have sz : s.heap.objs.size ≤ h₄.objs.size := by
    have := hn₄.lt
    exact Nat.le_of_lt this
  exact wpAt_of_wpAny (wpAny_execs_nil (hq h₅ tk₅ dx ⟨fun b o hb e => k₅ b o hb (old b o hb e), ⟨t4, hx₅⟩, Nat.le_trans sz dn, dne, hn₅⟩))
theorem is_made (T : IsTxt prog K mg C fI cda cc) {v : Value} (X : K.In s.heap) (hns : s.heap.Ns mainGlobals mg) (hbt : ∃ mb, s.heap.Ns builtinsNs mb ∧ ∀ x : Str, x ≠ "__name__" → mb x = bootBuiltins x) (hlim : s.heap.NoLimit) (hroom : A.depth + 1 < recursionLimit)
    (hq : ∀ h' tk e d, MadeX s.heap h' e C d v → R (.ok (.ret (.ref e))) { s with heap := h', toks := tk }) :
    codeAny (model prog w) A (.call (.ref C) ⟨[v], []⟩) R s := by
  obtain ⟨nm, q, N, bs, bm, sn, sub, ab, col, dd, k0, k1, k2, k3, k5, hC, hbm⟩ := T.cls
  obtain ⟨hp, g, dr, tk, os⟩ := s
  have k : ∀ b o, hp.get? b = some o → ((hp.push (kdv_tup [v])).push (excO C hp.objs.size)).get? b = some o := fun b o e => Heap.get?_push_of_some _ (Heap.get?_push_of_some _ e)
  have hget : ((hp.push (kdv_tup [v])).push (excO C hp.objs.size)).get? (hp.objs.size + 1) = some (excO C hp.objs.size) := by heap_get
  have hnx : K.lookup (hp.objs.size + 1) = none := by
    cases e : K.lookup (hp.objs.size + 1) with
    | none => rfl
    | some o =>
      have z : hp.get? (hp.objs.size + 1) = some o := X _ _ e
      exact absurd (Nat.lt_of_succ_lt (Heap.lt_size z)) (Nat.lt_irrefl _)
  obtain ⟨mb, hb1, hb2⟩ := hbt
  refine call_own F.excBase_ValueError (fun X => refsVE_contains X bm hbm) (X _ _ hC) (looks_findIn X T.iC) (fun self => bind_fn X self T.tI) (by show 1 ≤ sizeLine; decide) ?_
  refine is_init (s := ⟨(hp.push (kdv_tup [v])).push (excO C hp.objs.size), g, dr, tk, os⟩) T (X.keeps k) (hns.keeps k) ⟨mb, hb1.keeps k, hb2⟩ (hlim.keeps k) hget hnx ?_ fun h' tk' dx M => ?_
  · show A.depth + 1 < recursionLimit
    exact hroom
  · obtain ⟨k', ⟨t1, hx⟩, dn, dne, hns'⟩ := M
    have old : ∀ b o, hp.get? b = some o → h'.get? b = some o := fun b o e => k' b o (Nat.ne_of_lt (Nat.lt_succ_of_lt (Heap.lt_size e))) (k b o e)
    have z : hp.objs.size + 1 + 1 ≤ dx := by
      have q := dn
      simp only [Heap.size_push] at q
      exact q
    exact ⟨rfl, hq h' tk' (hp.objs.size + 1) dx ⟨old, Nat.le_succ _, ⟨_, _, hx, rfl, rfl, rfl, rfl⟩, Nat.le_trans (Nat.le_trans (Nat.le_succ _) (Nat.le_succ _)) z, dne, hns'⟩⟩
end
theorem relO_val {v : V} {v' : Value} (r : RelV v v') (f : Str) : RelO (List.lookup f [(("value" : Str), v)]) (if f = "value" then some v' else none) := by
  by_cases hw : f = "value"
  · subst hw
    rw [if_pos rfl]
    have q : List.lookup ("value" : Str) [(("value" : Str), v)] = some v := by simp [List.lookup]
    rw [q]
    exact r
  · rw [if_neg hw]
    have qw : (f == ("value" : Str)) = false := by simpa using hw
    have q2 : List.lookup f [(("value" : Str), v)] = none := by simp [List.lookup, qw]
    rw [q2]
    trivial
section
variable {X : Cx} {C fI cda cc : Addr}
/-- InvalidScript(e) -/
def tMkIs (C : Addr) (ta : TA) : L2.St → Hp → XK → Prop := fun σ H Q => ta σ H fun vs H1 => ∃ v, vs = [v] ∧ ∀ d, H1 d = none → Q (.ref C) (some d) (upd H1 d (.xd [(("value" : Str), v)]))
theorem pmk_is {a : Expr} {ta : TA} {p pos : Pos} {k : Nat} (T : IsTxt X.prog X.K X.mg C fI cda cc) (hr : Room k X.A) (ha : PA X [a] ta) (hg : Gl X "InvalidScript" := by rfl)
    (he : starEach (a :: []) X.env = (false, eval a X.env) :: starEach [] X.env := by rfl) (hpl : (backTo pos (starEach [] X.env)).any (·.1) = false := by rfl) :
    PMk X (.Call (.Name "InvalidScript" p) [a] [] pos) (tMkIs C ta) := by
  intro pins s σ H Q I h
  refine wpAny_Call_Name_kw (ld_glob I hg T.gC ?_)
  refine PySem.W.callWith_K (h₀ := X.base) I.ok.mod.kin T.kC (thn (ha.run pos pins s σ H _ I h) fun us s1 hh => ?_) he hpl
  obtain ⟨vs, H1, I1, r1, v, ev, q1⟩ := hh
  subst ev
  refine ⟨I1.kIn, ?_⟩
  cases r1 with
  | cons rv rn =>
    rename_i v' us'
    cases rn
    show wpAny _ _ (call (.ref C) [v']) _ _ _
    have hlim := I1.nolimit
    have hgl : s1.heap.Ns mainGlobals X.mg := I1.mod.glob.keeps I1.bk
    have hbl : ∃ mb, s1.heap.Ns builtinsNs mb ∧ ∀ x : Str, x ≠ "__name__" → mb x = bootBuiltins x := by
      obtain ⟨mb, h1, h2⟩ := I1.mod.blt
      exact ⟨mb, h1.keeps I1.bk, h2⟩
    obtain ⟨hp, g, dr, tk, os⟩ := s1
    refine wpAny_call (is_made T I1.kIn hgl hbl hlim (by have := hr.dp; omega) fun h' tk' e d M => ?_)
    show MkP X pins σ Q (.ref e) ⟨h', g, dr, tk', os⟩
    obtain ⟨oe, fv, hoe, hc, hd, hdat, h1⟩ := M.obj
    have hns := M.ns
    obtain ⟨G', g1, g2⟩ := restrict h' fun b => decide (b ≠ e)
    have gk : ∀ b, b ≠ e → G'.get? b = h'.get? b := fun b hb => g1 b (decide_eq_true hb)
    have ge : G'.get? e = none := g2 e (by simp)
    have old : ∀ b o, hp.get? b = some o → G'.get? b = some o := fun b o q => (gk b (Nat.ne_of_lt (Nat.lt_of_lt_of_le (Heap.lt_size q) M.new))).trans (M.keep b o q)
    have ob : ObjOk X.prog X.w (upd H1 d (.xd [(("value" : Str), v)])) G' d (.xd [(("value" : Str), v)]) :=
      ⟨_, hns.at (fun o q => (gk d M.dne).trans q), fun f => relO_val rv f⟩
    have J : Inv X pins σ (upd H1 d (.xd [(("value" : Str), v)])) ⟨G', g, dr, tk', os⟩ := I1.laid (t' := tk') old M.dbig ob
    refine ⟨e, oe, fv, ⟨G', g, dr, tk', os⟩, _, .ref C, some d, rfl, J, fun b o q => ?_, ge, hoe, ⟨hc, hd⟩, hdat, h1, ?_, rfl, I1.bare, raises_own T.xf.exC T.tyC, q1 d (I1.hok.fresh M.dbig)⟩
    · by_cases hb : b = e
      · have q' : G'.get? b = some o := q
        rw [hb, ge] at q'; cases q'
      · exact (gk b hb).symm.trans q
    · rw [upd_ne (Ne.symm M.dne)]
      exact I1.hok.fresh M.new
end
end Gf
set_option Elab.async false
set_option linter.all false
set_option maxRecDepth 100000
set_option maxHeartbeats 4000000
namespace Gf
open PySem PySem.Spec PyProof.Rows L2
/-- a value that is no deed -/
inductive Bad (K : PySem.W.Frag) (H : Hp) : V → Prop where
  | non : Bad K H .non
  | int (i : Int) : Bad K H (.int i)
  | lst {a : Addr} {xs : List V} (h : SqL K H a xs) : Bad K H (.ref a)
  | emp {a : Addr} (h : SqT K H a []) : Bad K H (.ref a)
  | drop {a : Addr} (h : SqT K H a [.str "drop", .int 0]) : Bad K H (.ref a)
  | word {a : Addr} (h : SqT K H a [.str "word", .int 1, .str ""]) : Bad K H (.ref a)
  | move {a : Addr} (h : SqT K H a [.str "move", .int 1, .int 0]) : Bad K H (.ref a)
/-- a deed stands at a value -/
def DeA (K : PySem.W.Frag) (H : Hp) (d : DS) (x : V) : Prop := ∃ a : Addr, x = .ref a ∧ SqT K H a (deV d)
section
variable {P : Program} {w : World} {K : PySem.W.Frag} {mg : Str → Option Value} {base : Heap} {lt mt : Tok} {H H' : Hp}
theorem DeA.mono (h : Kp K H H') {d : DS} {x : V} : DeA K H d x → DeA K H' d x := fun ⟨a, e, q⟩ => ⟨a, e, h.t _ _ q⟩
theorem Bad.same (h : Same H H') {x : V} : Bad K H x → Bad K H' x := fun b => by
  cases b with
  | non => exact .non
  | int i => exact .int i
  | lst q => exact .lst (h.seq q)
  | emp q => exact .emp (h.seqT q)
  | drop q => exact .drop (h.seqT q)
  | word q => exact .word (h.seqT q)
  | move q => exact .move (h.seqT q)
theorem tyL {a : Addr} {xs : List V} (h : SqL K H a xs) : TyX K H (.ref a) (.type "list") := by
  rcases h with (h | ⟨o, h⟩) | ⟨o, its, n, h, c, _⟩
  · exact .base (.lst h)
  · exact .base (.frz h)
  · exact .kList h c
theorem sc_is_deed : FnScope ["value"] ["value"] (defScope s_is_deed) := ⟨rfl, rfl, rfl, by decide +kernel, rfl, by decide +kernel, by decide +kernel⟩
def sp_isdeed (K : PySem.W.Frag) : Sp := fun vs H Q _ => ∃ x : V, vs = [x] ∧ ((∃ d : DS, DeA K H d x ∧ deOk d ∧ ∀ H', Same H H' → Q (.bl true) H') ∨ (Bad K H x ∧ ∀ H', Same H H' → Q (.bl false) H'))
theorem ok_is_deed (D : Df K mg "is_deed" s_is_deed ["value"]) (B : Bi mg) (G_is_mark : Pr P w K mg base CX0 2 "is_mark" ["value"] sp_mark) (G_is_word : Pr P w K mg base CX0 1 "is_word" ["value"] sp_word) (G_is_count : Pr P w K mg base CX0 2 "is_count" ["value"] sp_count) :
    Pr P w K mg base CX0 3 "is_deed" ["value"] (sp_isdeed K) := by
  refine D.ok sc_is_deed (fun vs H Q E h => ?_) (fun fa cdv A outer s H vs Q E hr h => ?_)
  · obtain ⟨x, rfl, _⟩ := h; rfl
  obtain ⟨x, rfl, h⟩ := h
  refine ⟨_, (pss_cons (ps_if (PW.pt (pw_or (pt_not (pt_val (pe_callB call_isi (by rfl) B.isinstance (by decide +kernel) (pa_cons (pv 0) (pa_cons (pe_bltn (v := .ty "tuple") (by rfl) B.ttuple (by decide +kernel) rfl) pa_nil))))) (pw_or (pt_cmpR op_lt (pe_callB call_len_seq (by rfl) B.len PySem.boot_len (pa_cons (pv 0) pa_nil)) pe_int (nomark _)) (pw_or (pt_not (pt_val (pe_callB call_isi (by rfl) B.isinstance (by decide +kernel) (pa_cons (pe_ix ix_tup (pv 0) pe_int (fun _ _ => rfl)) (pa_cons (pe_bltn (v := .ty "str") (by rfl) B.tstr (by decide +kernel) rfl) pa_nil))))) (pw_or1 (pt_not (pt_val (pe_own G_is_mark (hr.mono (by first | decide | omega)) (by rfl) pass0 (pa_cons (pe_ix ix_tup (pv 0) pe_int (fun _ _ => rfl)) pa_nil))))))))) (pss_one (ps_ret pe_bl)) pss_nil)
    (pss_cons (ps_if (pt_cmpR op_eq (pe_ix ix_tup (pv 0) pe_int (fun _ _ => rfl)) pe_str (nomark _)) (pss_one (ps_ret (pe_and (pe_cmpR op_eq (pe_callB call_len_seq (by rfl) B.len PySem.boot_len (pa_cons (pv 0) pa_nil)) pe_int (nomark _)) (pe_and (pe_own G_is_word (hr.mono (by first | decide | omega)) (by rfl) pass0 (pa_cons (pe_ix ix_tup (pv 0) pe_int (fun _ _ => rfl)) pa_nil)) (pe_and (pe_own G_is_count (hr.mono (by first | decide | omega)) (by rfl) pass0 (pa_cons (pe_ix ix_tup (pv 0) pe_int (fun _ _ => rfl)) pa_nil)) (pe_one (pe_own G_is_count (hr.mono (by first | decide | omega)) (by rfl) pass0 (pa_cons (pe_ix ix_tup (pv 0) pe_int (fun _ _ => rfl)) pa_nil)))))))) pss_nil)
    (pss_cons (ps_if (pt_cmpR op_eq (pe_ix ix_tup (pv 0) pe_int (fun _ _ => rfl)) pe_str (nomark _)) (pss_one (ps_ret (pe_cmpR op_eq (pe_callB call_len_seq (by rfl) B.len PySem.boot_len (pa_cons (pv 0) pa_nil)) pe_int (nomark _)))) pss_nil)
    (pss_cons (ps_if (pt_cmpR op_eq (pe_ix ix_tup (pv 0) pe_int (fun _ _ => rfl)) pe_str (nomark _)) (pss_one (ps_ret (pe_and (pe_cmpR op_eq (pe_callB call_len_seq (by rfl) B.len PySem.boot_len (pa_cons (pv 0) pa_nil)) pe_int (nomark _)) (pe_and (pe_own G_is_count (hr.mono (by first | decide | omega)) (by rfl) pass0 (pa_cons (pe_ix ix_tup (pv 0) pe_int (fun _ _ => rfl)) pa_nil)) (pe_one (pe_own G_is_count (hr.mono (by first | decide | omega)) (by rfl) pass0 (pa_cons (pe_ix ix_tup (pv 0) pe_int (fun _ _ => rfl)) pa_nil))))))) pss_nil)
    (pss_cons (ps_if (pt_cmpR op_eq (pe_ix ix_tup (pv 0) pe_int (fun _ _ => rfl)) pe_str (nomark _)) (pss_one (ps_ret (pe_and (pe_cmpR op_eq (pe_callB call_len_seq (by rfl) B.len PySem.boot_len (pa_cons (pv 0) pa_nil)) pe_int (nomark _)) (pe_one (pe_own G_is_word (hr.mono (by first | decide | omega)) (by rfl) pass0 (pa_cons (pe_ix ix_tup (pv 0) pe_int (fun _ _ => rfl)) pa_nil)))))) pss_nil)
    (pss_one (ps_ret pe_bl))))))), ?_⟩
  rcases h with ⟨d, ⟨a, rfl, ha⟩, hok, q⟩ | ⟨hb, q⟩
  · refine ⟨_, rfl, .ref a, .ty "tuple", _, _, true, rfl, .ty _, tyT ha, kit_ty (by decide +kernel), _, rfl, itF rfl ?_⟩
    cases d with
    | add m u p b =>
      obtain ⟨h1, h2, h3, h4⟩ := hok
      refine ⟨_, rfl, a, _, rfl, .inr ha, _, _, rfl, rfl, _, rfl, itF rfl ?_⟩
      refine ⟨_, rfl, a, _, 0, _, rfl, rfl, ha, atI_nat (j := 0) rfl, .str "add", .ty "str", _, _, true, rfl, .ty _, .base (.str _), kit_ty (by decide +kernel), _, rfl, itF rfl ?_⟩
      refine ⟨_, rfl, a, _, 1, _, rfl, rfl, ha, atI_nat (j := 1) rfl, m, rfl, _, rfl, ?_⟩
      rw [decide_eq_true h1]
      refine ⟨_, rfl, a, _, 0, _, rfl, rfl, ha, atI_nat (j := 0) rfl, rfl, _, rfl, itT (by decide +kernel) ?_⟩
      refine ⟨_, rfl, a, _, rfl, .inr ha, rfl, _, rfl, itT rfl ?_⟩
      refine ⟨_, rfl, a, _, 2, _, rfl, rfl, ha, atI_nat (j := 2) rfl, u, rfl, .inl ⟨h2, fun H1 s1 => ?_⟩⟩
      refine ⟨_, rfl, itT rfl ?_⟩
      refine ⟨_, rfl, a, _, 3, _, rfl, rfl, s1.seqT ha, atI_nat (j := 3) rfl, p, rfl, _, rfl, itT (decide_eq_true h3) ?_⟩
      refine ⟨_, rfl, a, _, 4, _, rfl, rfl, s1.seqT ha, atI_nat (j := 4) rfl, b, rfl, ?_⟩
      rw [decide_eq_true h4]
      exact q H1 s1
    | drop m =>
      refine ⟨_, rfl, a, _, rfl, .inr ha, _, _, rfl, rfl, _, rfl, itF rfl ?_⟩
      refine ⟨_, rfl, a, _, 0, _, rfl, rfl, ha, atI_nat (j := 0) rfl, .str "drop", .ty "str", _, _, true, rfl, .ty _, .base (.str _), kit_ty (by decide +kernel), _, rfl, itF rfl ?_⟩
      refine ⟨_, rfl, a, _, 1, _, rfl, rfl, ha, atI_nat (j := 1) rfl, m, rfl, _, rfl, ?_⟩
      rw [decide_eq_true (show 0 < m from hok)]
      refine ⟨_, rfl, a, _, 0, _, rfl, rfl, ha, atI_nat (j := 0) rfl, rfl, _, rfl, itF (by decide +kernel) ?_⟩
      refine ⟨_, rfl, a, _, 0, _, rfl, rfl, ha, atI_nat (j := 0) rfl, rfl, _, rfl, itT (by decide +kernel) ?_⟩
      refine ⟨_, rfl, a, _, rfl, .inr ha, rfl, ?_⟩
      exact q H (Same.refl H)
    | move m p b =>
      obtain ⟨h1, h3, h4⟩ := hok
      refine ⟨_, rfl, a, _, rfl, .inr ha, _, _, rfl, rfl, _, rfl, itF rfl ?_⟩
      refine ⟨_, rfl, a, _, 0, _, rfl, rfl, ha, atI_nat (j := 0) rfl, .str "move", .ty "str", _, _, true, rfl, .ty _, .base (.str _), kit_ty (by decide +kernel), _, rfl, itF rfl ?_⟩
      refine ⟨_, rfl, a, _, 1, _, rfl, rfl, ha, atI_nat (j := 1) rfl, m, rfl, _, rfl, ?_⟩
      rw [decide_eq_true h1]
      refine ⟨_, rfl, a, _, 0, _, rfl, rfl, ha, atI_nat (j := 0) rfl, rfl, _, rfl, itF (by decide +kernel) ?_⟩
      refine ⟨_, rfl, a, _, 0, _, rfl, rfl, ha, atI_nat (j := 0) rfl, rfl, _, rfl, itF (by decide +kernel) ?_⟩
      refine ⟨_, rfl, a, _, 0, _, rfl, rfl, ha, atI_nat (j := 0) rfl, rfl, _, rfl, itT (by decide +kernel) ?_⟩
      refine ⟨_, rfl, a, _, rfl, .inr ha, rfl, _, rfl, itT rfl ?_⟩
      refine ⟨_, rfl, a, _, 2, _, rfl, rfl, ha, atI_nat (j := 2) rfl, p, rfl, _, rfl, itT (decide_eq_true h3) ?_⟩
      refine ⟨_, rfl, a, _, 3, _, rfl, rfl, ha, atI_nat (j := 3) rfl, b, rfl, ?_⟩
      rw [decide_eq_true h4]
      exact q H (Same.refl H)
    | word m u =>
      obtain ⟨h1, h2⟩ := hok
      refine ⟨_, rfl, a, _, rfl, .inr ha, _, _, rfl, rfl, _, rfl, itF rfl ?_⟩
      refine ⟨_, rfl, a, _, 0, _, rfl, rfl, ha, atI_nat (j := 0) rfl, .str "word", .ty "str", _, _, true, rfl, .ty _, .base (.str _), kit_ty (by decide +kernel), _, rfl, itF rfl ?_⟩
      refine ⟨_, rfl, a, _, 1, _, rfl, rfl, ha, atI_nat (j := 1) rfl, m, rfl, _, rfl, ?_⟩
      rw [decide_eq_true h1]
      refine ⟨_, rfl, a, _, 0, _, rfl, rfl, ha, atI_nat (j := 0) rfl, rfl, _, rfl, itF (by decide +kernel) ?_⟩
      refine ⟨_, rfl, a, _, 0, _, rfl, rfl, ha, atI_nat (j := 0) rfl, rfl, _, rfl, itF (by decide +kernel) ?_⟩
      refine ⟨_, rfl, a, _, 0, _, rfl, rfl, ha, atI_nat (j := 0) rfl, rfl, _, rfl, itF (by decide +kernel) ?_⟩
      refine ⟨_, rfl, a, _, 0, _, rfl, rfl, ha, atI_nat (j := 0) rfl, rfl, _, rfl, itT (by decide +kernel) ?_⟩
      refine ⟨_, rfl, a, _, rfl, .inr ha, rfl, _, rfl, itT rfl ?_⟩
      exact ⟨_, rfl, a, _, 2, _, rfl, rfl, ha, atI_nat (j := 2) rfl, u, rfl, .inl ⟨h2, fun H1 s1 => q H1 s1⟩⟩
  · have q0 := q H (Same.refl H)
    cases hb with
    | non => exact ⟨_, rfl, .non, .ty "tuple", _, _, false, rfl, .ty _, .base .non, kit_ty (by decide +kernel), _, rfl, itT rfl q0⟩
    | int i => exact ⟨_, rfl, .int i, .ty "tuple", _, _, false, rfl, .ty _, .base (.int i), kit_ty (by decide +kernel), _, rfl, itT rfl q0⟩
    | @lst a xs ha => exact ⟨_, rfl, .ref a, .ty "tuple", _, _, false, rfl, .ty _, tyL ha, kit_ty (by decide +kernel), _, rfl, itT rfl q0⟩
    | @emp a ha =>
      refine ⟨_, rfl, .ref a, .ty "tuple", _, _, true, rfl, .ty _, tyT ha, kit_ty (by decide +kernel), _, rfl, itF rfl ?_⟩
      exact ⟨_, rfl, a, _, rfl, .inr ha, _, _, rfl, rfl, _, rfl, itT (by decide +kernel) q0⟩
    | @drop a ha =>
      refine ⟨_, rfl, .ref a, .ty "tuple", _, _, true, rfl, .ty _, tyT ha, kit_ty (by decide +kernel), _, rfl, itF rfl ?_⟩
      refine ⟨_, rfl, a, _, rfl, .inr ha, _, _, rfl, rfl, _, rfl, itF rfl ?_⟩
      refine ⟨_, rfl, a, _, 0, _, rfl, rfl, ha, atI_nat (j := 0) rfl, .str "drop", .ty "str", _, _, true, rfl, .ty _, .base (.str _), kit_ty (by decide +kernel), _, rfl, itF rfl ?_⟩
      exact ⟨_, rfl, a, _, 1, _, rfl, rfl, ha, atI_nat (j := 1) rfl, 0, rfl, _, rfl, q0⟩
    | @word a ha =>
      refine ⟨_, rfl, .ref a, .ty "tuple", _, _, true, rfl, .ty _, tyT ha, kit_ty (by decide +kernel), _, rfl, itF rfl ?_⟩
      refine ⟨_, rfl, a, _, rfl, .inr ha, _, _, rfl, rfl, _, rfl, itF rfl ?_⟩
      refine ⟨_, rfl, a, _, 0, _, rfl, rfl, ha, atI_nat (j := 0) rfl, .str "word", .ty "str", _, _, true, rfl, .ty _, .base (.str _), kit_ty (by decide +kernel), _, rfl, itF rfl ?_⟩
      refine ⟨_, rfl, a, _, 1, _, rfl, rfl, ha, atI_nat (j := 1) rfl, 1, rfl, _, rfl, ?_⟩
      rw [decide_eq_true (show (0 : Int) < 1 by decide)]
      refine ⟨_, rfl, a, _, 0, _, rfl, rfl, ha, atI_nat (j := 0) rfl, rfl, _, rfl, itF (by decide +kernel) ?_⟩
      refine ⟨_, rfl, a, _, 0, _, rfl, rfl, ha, atI_nat (j := 0) rfl, rfl, _, rfl, itF (by decide +kernel) ?_⟩
      refine ⟨_, rfl, a, _, 0, _, rfl, rfl, ha, atI_nat (j := 0) rfl, rfl, _, rfl, itF (by decide +kernel) ?_⟩
      refine ⟨_, rfl, a, _, 0, _, rfl, rfl, ha, atI_nat (j := 0) rfl, rfl, _, rfl, itT (by decide +kernel) ?_⟩
      refine ⟨_, rfl, a, _, rfl, .inr ha, rfl, _, rfl, itT rfl ?_⟩
      exact ⟨_, rfl, a, _, 2, _, rfl, rfl, ha, atI_nat (j := 2) rfl, "", rfl, .inr ⟨rfl, q0⟩⟩
    | @move a ha =>
      refine ⟨_, rfl, .ref a, .ty "tuple", _, _, true, rfl, .ty _, tyT ha, kit_ty (by decide +kernel), _, rfl, itF rfl ?_⟩
      refine ⟨_, rfl, a, _, rfl, .inr ha, _, _, rfl, rfl, _, rfl, itF rfl ?_⟩
      refine ⟨_, rfl, a, _, 0, _, rfl, rfl, ha, atI_nat (j := 0) rfl, .str "move", .ty "str", _, _, true, rfl, .ty _, .base (.str _), kit_ty (by decide +kernel), _, rfl, itF rfl ?_⟩
      refine ⟨_, rfl, a, _, 1, _, rfl, rfl, ha, atI_nat (j := 1) rfl, 1, rfl, _, rfl, ?_⟩
      rw [decide_eq_true (show (0 : Int) < 1 by decide)]
      refine ⟨_, rfl, a, _, 0, _, rfl, rfl, ha, atI_nat (j := 0) rfl, rfl, _, rfl, itF (by decide +kernel) ?_⟩
      refine ⟨_, rfl, a, _, 0, _, rfl, rfl, ha, atI_nat (j := 0) rfl, rfl, _, rfl, itF (by decide +kernel) ?_⟩
      refine ⟨_, rfl, a, _, 0, _, rfl, rfl, ha, atI_nat (j := 0) rfl, rfl, _, rfl, itT (by decide +kernel) ?_⟩
      exact ⟨_, rfl, a, _, rfl, .inr ha, rfl, _, rfl, itF (by decide +kernel) q0⟩
end
end Gf
set_option Elab.async false
set_option linter.all false
set_option maxRecDepth 100000
set_option maxHeartbeats 4000000
namespace Gf
open PySem PySem.Spec PyProof.Rows L2
/-! ### plots stay plots -/
theorem gOk.ins {m : Int} {u : Str} {k : FS} (h1 : 0 < m) (h2 : okW u) (h3 : gOk k) : ∀ (g : FS) (n : Nat), gOk g → gOk (insN g n m u k)
  | .nil, 0, h => ⟨h1, h2, h3, h⟩
  | .cons _ _ _ _, 0, h => ⟨h1, h2, h3, h⟩
  | .nil, _ + 1, _ => ⟨h1, h2, h3, trivial⟩
  | .cons _ _ _ r, n + 1, h => ⟨h.1, h.2.1, h.2.2.1, gOk.ins h1 h2 h3 r n h.2.2.2⟩
theorem gOk.wr {q : Int} {nk : FS} (h : gOk nk) : ∀ g : FS, gOk g → gOk (wr g q nk)
  | .nil, _ => trivial
  | .cons m w k r, hg => by
    show gOk (if m = q then Fo.cons m w nk (Gf.wr r q nk) else Fo.cons m w (Gf.wr k q nk) (Gf.wr r q nk))
    split
    · exact ⟨hg.1, hg.2.1, h, gOk.wr h r hg.2.2.2⟩
    · exact ⟨hg.1, hg.2.1, gOk.wr h k hg.2.2.1, gOk.wr h r hg.2.2.2⟩
theorem gOk.taken (m : Int) : ∀ g : FS, gOk g → gOk (taken g m)
  | .nil, _ => trivial
  | .cons x w k r, hg => by
    show gOk (if x = m then Gf.taken r m else Fo.cons x w (Gf.taken k m) (Gf.taken r m))
    split
    · exact gOk.taken m r hg.2.2.2
    · exact ⟨hg.1, hg.2.1, gOk.taken m k hg.2.2.1, gOk.taken m r hg.2.2.2⟩
theorem gOk.worded {u : Str} (hu : okW u) (m : Int) : ∀ g : FS, gOk g → gOk (worded g m u)
  | .nil, _ => trivial
  | .cons x w k r, hg => by
    refine ⟨hg.1, ?_, gOk.worded hu m k hg.2.2.1, gOk.worded hu m r hg.2.2.2⟩
    split
    · exact hu
    · exact hg.2.1
theorem gOk.ent : ∀ {g : FS} {p b : Int} {e : ES}, gOk g → e ∈ ents g p b → 0 < e.m ∧ okW e.w ∧ gOk e.k
  | .nil, _, _, _, _, h => by simp [ents] at h
  | .cons m w k r, p, b, e, hg, h => by
    have h' : e = ⟨m, w, k, p, b⟩ ∨ e ∈ ents k m 0 ∨ e ∈ ents r p m := by simpa [ents] using h
    rcases h' with h' | h' | h'
    · rw [h']; exact ⟨hg.1, hg.2.1, hg.2.2.1⟩
    · exact gOk.ent hg.2.2.1 h'
    · exact gOk.ent hg.2.2.2 h'
theorem gOk.pos {g : FS} (hg : gOk g) : ∀ m ∈ marks g, 0 < m := fun m hm => by
  obtain ⟨e, he, rfl⟩ := (mem_marks (p := 0) (b := 0)).mp hm
  exact (hg.ent he).1
theorem gOk.row {f : FS} (hf : gOk f) (p : Int) : gOk (rowAt f p) := by
  unfold rowAt
  split
  · exact hf
  · cases c : findE f p with
    | none => exact trivial
    | some e => exact (hf.ent (findE_some c).1).2.2
theorem gOk.put {f k : FS} {m p b : Int} {u : Str} (hf : gOk f) (h1 : 0 < m) (h2 : okW u) (h3 : gOk k) : gOk (putIn f m u k p b) := by
  have h := gOk.ins h1 h2 h3 (rowAt f p) (posL (tmarks (rowAt f p)) b) (hf.row p)
  unfold putIn withRow
  split
  · exact h
  · exact gOk.wr h f hf
structure Good (n : Nat) (f : FS) : Prop where
  len : (marks f).length ≤ n
  nd : (marks f).Nodup
  ok : gOk f
theorem Good.pos {n : Nat} {f : FS} (h : Good n f) : ∀ m ∈ marks f, 0 < m := h.ok.pos
theorem Good.zero {n : Nat} {f : FS} (h : Good n f) : (0 : Int) ∉ marks f := fun z => absurd (h.pos 0 z) (by omega)
theorem Good.dep {n : Nat} {f : FS} (h : Good n f) : depth f ≤ n := Nat.le_trans (depth_le f) h.len
theorem Good.step {n : Nat} {f : FS} (h : Good n f) {d : DS} (hd : deOk d) (hp : POk f d) : Good (n + 1) (behind f d) := by
  cases d with
  | add m u p b =>
    have pp := perm_put (m := m) (w := u) (k := Fo.nil) (b := b) h.nd h.zero hp.2.1
    refine ⟨?_, pp.nodup_iff.mpr (List.nodup_cons.mpr ⟨hp.1, h.nd⟩), h.ok.put hd.1 hd.2.1 trivial⟩
    have e := pp.length_eq
    have l := h.len
    show (marks (putIn f m u .nil p b)).length ≤ n + 1
    rw [e]
    show (marks f).length + 1 ≤ n + 1
    omega
  | drop m =>
    obtain ⟨e, h1, h2, rfl⟩ := findE_mem hp.1
    have pt := perm_taken h.nd h2
    have nt := pt.nodup_iff.mpr h.nd
    exact ⟨Nat.le_succ_of_le (Nat.le_trans (taken_len e.m f) h.len), (List.nodup_append.mp (List.nodup_cons.mp nt).2).2.1, gOk.taken _ f h.ok⟩
  | move m p b =>
    obtain ⟨hm, hpp, hi, hb⟩ := hp
    obtain ⟨e, h1, h2, rfl⟩ := findE_mem hm
    have pt := perm_taken h.nd h2
    have nt := pt.nodup_iff.mpr h.nd
    obtain ⟨n1, n2⟩ := List.nodup_cons.mp nt
    obtain ⟨n3, n4, n5⟩ := List.nodup_append.mp n2
    obtain ⟨i1, i2⟩ := not_below h.nd h.pos h2 hi
    have hp' : p = 0 ∨ p ∈ marks (taken f e.m) := hpp.imp id fun z => by
      rcases List.mem_cons.mp (pt.mem_iff.mpr z) with y | y
      · exact absurd y i1
      · exact (List.mem_append.mp y).resolve_left i2
    have t0 : (0 : Int) ∉ marks (taken f e.m) := fun z => h.zero (pt.mem_iff.mp (List.mem_cons_of_mem _ (List.mem_append.mpr (.inr z))))
    have pp := (perm_put (m := e.m) (w := e.w) (k := e.k) (b := b) n4 t0 hp').trans pt
    have e2 : behind f (.move e.m p b) = putIn (taken f e.m) e.m e.w e.k p b := by
      simp only [behind, h1]
    obtain ⟨o1, o2, o3⟩ := h.ok.ent h2
    rw [e2]
    exact ⟨by rw [pp.length_eq]; exact Nat.le_succ_of_le h.len, pp.nodup_iff.mpr h.nd, (gOk.taken _ f h.ok).put o1 o2 o3⟩
  | word m u =>
    refine ⟨?_, ?_, gOk.worded hd.2 m f h.ok⟩
    · show (marks (worded f m u)).length ≤ n + 1
      rw [worded_marks]
      exact Nat.le_succ_of_le h.len
    · show (marks (worded f m u)).Nodup
      rw [worded_marks]
      exact h.nd
section
variable {P : Program} {w : World} {K : PySem.W.Frag} {mg : Str → Option Value} {base : Heap} {lt mt : Tok} {H H' : Hp} {C fI cda cc : Addr}
/-- one deed, in a list or a tuple -/
def Sq1 (K : PySem.W.Frag) (H : Hp) (a : Addr) (x : V) : Prop := SqL K H a [x] ∨ SqT K H a [x]
theorem Sq1.same (h : Same H H') {a : Addr} {x : V} : Sq1 K H a x → Sq1 K H' a x := fun z => z.imp (fun q => h.seq q) fun q => h.seqT q
theorem sc_need_deed : FnScope ["value"] ["value"] (defScope s_need_deed) := ⟨rfl, rfl, rfl, by decide +kernel, rfl, by decide +kernel, by decide +kernel⟩
def sp_needd (K : PySem.W.Frag) (C : Addr) : Sp := fun vs H Q E => ∃ x : V, vs = [x] ∧ ((∃ d : DS, DeA K H d x ∧ deOk d ∧ ∀ H', Same H H' → Q .non H') ∨
  (Bad K H x ∧ ∀ H' dd, Same H H' → H' dd = some (.xd [(("value" : Str), x)]) → E (.ref C) (some dd) H'))
theorem ok_need_deed (D : Df K mg "need_deed" s_need_deed ["value"]) (T : IsTxt P K mg C fI cda cc) (G_is_deed : Pr P w K mg base CX0 3 "is_deed" ["value"] (sp_isdeed K)) : Pr P w K mg base (L2.CX P w) 4 "need_deed" ["value"] (sp_needd K C) := by
  refine D.okX sc_need_deed (fun vs H Q E h => ?_) (fun fa cdv A outer s H vs Q E hr h => ?_)
  · obtain ⟨x, rfl, _⟩ := h; rfl
  obtain ⟨x, rfl, h⟩ := h
  refine ⟨_, (pss_one (ps_if (pt_not (pt_val (pe_own G_is_deed (hr.mono (by first | decide | omega)) (by rfl) pass0 (pa_cons (pv 0) pa_nil)))) (pss_one (ps_raise rfl (takes_of rfl rfl rfl rfl) (pmk_is T hr (by exact (pa_cons (pv 0) pa_nil))))) pss_nil)), ?_⟩
  rcases h with ⟨d, hd, hok, q⟩ | ⟨hb, q⟩
  · exact ⟨_, rfl, x, rfl, .inl ⟨d, hd, hok, fun H1 s1 => ⟨_, rfl, q H1 s1⟩⟩⟩
  · exact ⟨_, rfl, x, rfl, .inr ⟨hb, fun H1 s1 => ⟨_, rfl, _, rfl, x, rfl, fun dd nd => q _ dd (s1.trans (same_upd nd)) upd_same⟩⟩⟩
theorem sc_need_script : FnScope ["script", "deed"] ["script"] (defScope s_need_script) := ⟨rfl, rfl, rfl, by decide +kernel, rfl, by decide +kernel, by decide +kernel⟩
def sp_scr (K : PySem.W.Frag) (C : Addr) : Sp := fun vs H Q E => ∃ (a : Addr) (x : V), vs = [.ref a] ∧ Sq1 K H a x ∧ ((∃ d : DS, DeA K H d x ∧ deOk d ∧ ∀ H', Same H H' → Q .non H') ∨
  (Bad K H x ∧ ∀ H' dd, Same H H' → H' dd = some (.xd [(("value" : Str), x)]) → E (.ref C) (some dd) H'))
theorem ok_need_script (D : Df K mg "need_script" s_need_script ["script"]) (G_need_deed : Pr P w K mg base (L2.CX P w) 4 "need_deed" ["value"] (sp_needd K C)) : Pr P w K mg base (L2.CX P w) 5 "need_script" ["script"] (sp_scr K C) := by
  refine D.okX sc_need_script (fun vs H Q E h => ?_) (fun fa cdv A outer s H vs Q E hr h => ?_)
  · obtain ⟨a, x, rfl, _⟩ := h; rfl
  obtain ⟨a, x, rfl, hs, h⟩ := h
  have e0 : ∀ {i : Nat} {y : V}, ([x] : List V)[i]? = some y → i = 0 ∧ y = x := fun {i y} e => by
    cases i with
    | zero => exact ⟨rfl, (Option.some.inj e).symm⟩
    | succ i => simp at e
  rcases hs with hs | hs
  · refine ⟨_, (pss_one (ps_for (passes_of rfl) rfl (pi_list (pv 0)) (pg_name (i := 1) sc_need_script.nd rfl (Or.inl rfl)) (pss_one (ps_expr (pe_own G_need_deed (hr.mono (by first | decide | omega)) (by rfl) (passes_call (takes_of rfl rfl rfl rfl) (fun _ _ _ _ z => z)) (pa_cons (pv 1) pa_nil)))))), ?_⟩
    rcases h with ⟨d, hd, hok, q⟩ | ⟨hb, q⟩
    · refine ⟨_, rfl, a, rfl, ⟨_, hs⟩, for_list (K := K) (a := a) (xs := [x]) (fun i σ H' => ∃ s1 : Option V, σ = [some (.ref a), s1] ∧ Same H H') ⟨none, rfl, Same.refl H⟩ (fun i σ H' _ p => ?_) (fun i y σ H' hy p => ?_) (fun σ H' p => ?_)⟩
      · obtain ⟨_, _, sm⟩ := p; exact sm.seq hs
      · obtain ⟨s1, rfl, sm⟩ := p
        obtain ⟨rfl, rfl⟩ := e0 hy
        exact ⟨_, rfl, y, rfl, .inl ⟨d, hd.mono sm.kp, hok, fun H1 sm1 => ⟨_, rfl, sm.trans sm1⟩⟩⟩
      · obtain ⟨_, rfl, sm⟩ := p; exact q H' sm
    · refine ⟨_, rfl, a, rfl, ⟨_, hs⟩, for_list (K := K) (a := a) (xs := [x]) (fun i σ H' => i = 0 ∧ ∃ s1 : Option V, σ = [some (.ref a), s1] ∧ Same H H') ⟨rfl, none, rfl, Same.refl H⟩ (fun i σ H' _ p => ?_) (fun i y σ H' hy p => ?_) (fun σ H' p => ?_)⟩
      · obtain ⟨_, _, _, sm⟩ := p; exact sm.seq hs
      · obtain ⟨_, s1, rfl, sm⟩ := p
        obtain ⟨rfl, rfl⟩ := e0 hy
        exact ⟨_, rfl, y, rfl, .inr ⟨hb.same sm, fun H1 dd sm1 hdd => q H1 dd (sm.trans sm1) hdd⟩⟩
      · exact absurd p.1 (Nat.succ_ne_zero 0)
  · refine ⟨_, (pss_one (ps_for (passes_of rfl) rfl (pi_tup (pv 0)) (pg_name (i := 1) sc_need_script.nd rfl (Or.inl rfl)) (pss_one (ps_expr (pe_own G_need_deed (hr.mono (by first | decide | omega)) (by rfl) (passes_call (takes_of rfl rfl rfl rfl) (fun _ _ _ _ z => z)) (pa_cons (pv 1) pa_nil)))))), ?_⟩
    rcases h with ⟨d, hd, hok, q⟩ | ⟨hb, q⟩
    · refine ⟨_, rfl, a, rfl, ⟨_, hs⟩, for_tup (K := K) (a := a) (xs := [x]) (fun i σ H' => ∃ s1 : Option V, σ = [some (.ref a), s1] ∧ Same H H') ⟨none, rfl, Same.refl H⟩ (fun i σ H' _ p => ?_) (fun i y σ H' hy p => ?_) (fun σ H' p => ?_)⟩
      · obtain ⟨_, _, sm⟩ := p; exact sm.seqT hs
      · obtain ⟨s1, rfl, sm⟩ := p
        obtain ⟨rfl, rfl⟩ := e0 hy
        exact ⟨_, rfl, y, rfl, .inl ⟨d, hd.mono sm.kp, hok, fun H1 sm1 => ⟨_, rfl, sm.trans sm1⟩⟩⟩
      · obtain ⟨_, rfl, sm⟩ := p; exact q H' sm
    · refine ⟨_, rfl, a, rfl, ⟨_, hs⟩, for_tup (K := K) (a := a) (xs := [x]) (fun i σ H' => i = 0 ∧ ∃ s1 : Option V, σ = [some (.ref a), s1] ∧ Same H H') ⟨rfl, none, rfl, Same.refl H⟩ (fun i σ H' _ p => ?_) (fun i y σ H' hy p => ?_) (fun σ H' p => ?_)⟩
      · obtain ⟨_, _, _, sm⟩ := p; exact sm.seqT hs
      · obtain ⟨_, s1, rfl, sm⟩ := p
        obtain ⟨rfl, rfl⟩ := e0 hy
        exact ⟨_, rfl, y, rfl, .inr ⟨hb.same sm, fun H1 dd sm1 hdd => q H1 dd (sm.trans sm1) hdd⟩⟩
      · exact absurd p.1 (Nat.succ_ne_zero 0)
theorem sc_need_scripts : FnScope ["t", "p", "q"] ["t", "p", "q"] (defScope s_need_scripts) := ⟨rfl, rfl, rfl, by decide +kernel, rfl, by decide +kernel, by decide +kernel⟩
def sp_scrs (K : PySem.W.Frag) (C : Addr) : Sp := fun vs H Q E => ∃ (t p q : Addr) (f : FS) (x y : V), vs = [.ref t, .ref p, .ref q] ∧ FoA K H f t ∧ Good 12 f ∧ Sq1 K H p x ∧ Sq1 K H q y ∧
  (((∃ d : DS, DeA K H d x ∧ deOk d) ∧ (∃ e : DS, DeA K H e y ∧ deOk e) ∧ ∀ H', Same H H' → Q .non H') ∨
    (Bad K H x ∧ ∀ H' dd, Same H H' → H' dd = some (.xd [(("value" : Str), x)]) → E (.ref C) (some dd) H') ∨
    ((∃ d : DS, DeA K H d x ∧ deOk d) ∧ Bad K H y ∧ ∀ H' dd, Same H H' → H' dd = some (.xd [(("value" : Str), y)]) → E (.ref C) (some dd) H'))
theorem ok_need_scripts (D : Df K mg "need_scripts" s_need_scripts ["t", "p", "q"]) (G_need_plot : Pr P w K mg base CX0 3 "need_plot" ["value"] (sp_need K)) (G_need_script : Pr P w K mg base (L2.CX P w) 5 "need_script" ["script"] (sp_scr K C)) :
    Pr P w K mg base (L2.CX P w) 6 "need_scripts" ["t", "p", "q"] (sp_scrs K C) := by
  refine D.okX sc_need_scripts (fun vs H Q E h => ?_) (fun fa cdv A outer s H vs Q E hr h => ?_)
  · obtain ⟨t, p, q, f, x, y, rfl, _⟩ := h; rfl
  obtain ⟨t, p, q, f, x, y, rfl, hf, hg, hp, hq, h⟩ := h
  refine ⟨_, (pss_cons (ps_expr (pe_own G_need_plot (hr.mono (by first | decide | omega)) (by rfl) pass0 (pa_cons (pv 0) pa_nil)))
    (pss_cons (ps_expr (pe_own G_need_script (hr.mono (by first | decide | omega)) (by rfl) (passes_call (takes_of rfl rfl rfl rfl) (fun _ _ _ _ z => z)) (pa_cons (pv 1) pa_nil)))
    (pss_one (ps_expr (pe_own G_need_script (hr.mono (by first | decide | omega)) (by rfl) (passes_call (takes_of rfl rfl rfl rfl) (fun _ _ _ _ z => z)) (pa_cons (pv 2) pa_nil)))))), ?_⟩
  refine ⟨_, rfl, t, f, rfl, hf, Nat.le_trans hg.len (by decide), hg.nd, hg.ok, fun H1 s1 => ?_⟩
  rcases h with ⟨⟨d, hd, hdo⟩, ⟨e, he, heo⟩, k⟩ | ⟨hb, k⟩ | ⟨⟨d, hd, hdo⟩, hb, k⟩
  · refine ⟨_, rfl, p, x, rfl, hp.same s1, .inl ⟨d, hd.mono s1.kp, hdo, fun H2 s2 => ?_⟩⟩
    exact ⟨_, rfl, q, y, rfl, hq.same (s1.trans s2), .inl ⟨e, he.mono (s1.trans s2).kp, heo, fun H3 s3 => k H3 ((s1.trans s2).trans s3)⟩⟩
  · exact ⟨_, rfl, p, x, rfl, hp.same s1, .inr ⟨hb.same s1, fun H2 dd s2 hdd => k H2 dd (s1.trans s2) hdd⟩⟩
  · refine ⟨_, rfl, p, x, rfl, hp.same s1, .inl ⟨d, hd.mono s1.kp, hdo, fun H2 s2 => ?_⟩⟩
    exact ⟨_, rfl, q, y, rfl, hq.same (s1.trans s2), .inr ⟨hb.same (s1.trans s2), fun H3 dd s3 hdd => k H3 dd ((s1.trans s2).trans s3) hdd⟩⟩
theorem sc_refusal_of : FnScope ["t", "deed"] ["t", "deed"] (defScope s_refusal_of) := ⟨rfl, rfl, rfl, by decide +kernel, rfl, by decide +kernel, by decide +kernel⟩
def sp_refu (K : PySem.W.Frag) : Sp := fun vs H Q _ => ∃ (a da : Addr) (f : FS) (d : DS), vs = [.ref a, .ref da] ∧ FoA K H f a ∧ SqT K H da (deV d) ∧ Good 12 f ∧ deOk d ∧ POk f d ∧ ∀ H', Same H H' → Q .non H'
theorem ok_refusal_of (D : Df K mg "refusal_of" s_refusal_of ["t", "deed"]) (G_need_plot : Pr P w K mg base CX0 3 "need_plot" ["value"] (sp_need K)) (G_need_deed : Pr P w K mg base (L2.CX P w) 4 "need_deed" ["value"] (sp_needd K C))
    (G_reason_at : Pr P w K mg base CX0 20 "reason_at" ["t", "deed"] (sp_reason K)) : Pr P w K mg base CX0 21 "refusal_of" ["t", "deed"] (sp_refu K) := by
  refine D.ok sc_refusal_of (fun vs H Q E h => ?_) (fun fa cdv A outer s H vs Q E hr h => ?_)
  · obtain ⟨a, da, f, d, rfl, _⟩ := h; rfl
  obtain ⟨a, da, f, d, rfl, hf, hda, hg, hdo, hp, k⟩ := h
  refine ⟨_, (pss_cons (ps_expr (pe_own G_need_plot (hr.mono (by first | decide | omega)) (by rfl) pass0 (pa_cons (pv 0) pa_nil)))
    (pss_cons (ps_expr (pe_own G_need_deed (hr.mono (by first | decide | omega)) (by rfl) passL (pa_cons (pv 1) pa_nil)))
    (pss_one (ps_ret (pe_own G_reason_at (hr.mono (by first | decide | omega)) (by rfl) pass0 (pa_cons (pv 0) (pa_cons (pv 1) pa_nil))))))), ?_⟩
  have hl := hg.len
  have hdep := hg.dep
  refine ⟨_, rfl, a, f, rfl, hf, by omega, hg.nd, hg.ok, fun H1 s1 => ?_⟩
  refine ⟨_, rfl, .ref da, rfl, .inl ⟨d, ⟨da, rfl, s1.seqT hda⟩, hdo, fun H2 s2 => ?_⟩⟩
  exact ⟨_, rfl, _, rfl, a, da, f, d, rfl, hf.mono (s1.trans s2).kp, (s1.trans s2).seqT hda, by omega, by omega, hg.nd, hg.pos, hdo.pos, fun _ H3 s3 => k H3 ((s1.trans s2).trans s3), fun z => absurd hp z⟩
theorem sc_run_deed : FnScope ["t", "deed", "reason"] ["t", "deed"] (defScope s_run_deed) := ⟨rfl, rfl, rfl, by decide +kernel, rfl, by decide +kernel, by decide +kernel⟩
def sp_rund (K : PySem.W.Frag) : Sp := fun vs H Q _ => ∃ (a da : Addr) (f : FS) (d : DS), vs = [.ref a, .ref da] ∧ FoA K H f a ∧ SqT K H da (deV d) ∧ Good 12 f ∧ deOk d ∧ POk f d ∧ ∀ H' c, Same H H' → FoA K H' (behind f d) c → Q (.ref c) H'
theorem ok_run_deed (D : Df K mg "run_deed" s_run_deed ["t", "deed"]) (G_refusal_of : Pr P w K mg base CX0 21 "refusal_of" ["t", "deed"] (sp_refu K)) (G_plot_behind_deed : Pr P w K mg base CX0 21 "plot_behind_deed" ["t", "deed"] (sp_behind K)) :
    Pr P w K mg base CX0 22 "run_deed" ["t", "deed"] (sp_rund K) := by
  refine D.ok sc_run_deed (fun vs H Q E h => ?_) (fun fa cdv A outer s H vs Q E hr h => ?_)
  · obtain ⟨a, da, f, d, rfl, _⟩ := h; rfl
  obtain ⟨a, da, f, d, rfl, hf, hda, hg, hdo, hp, k⟩ := h
  refine ⟨_, (pss_cons (ps_set (i := 2) sc_run_deed.nd rfl (Or.inl rfl) (pe_own G_refusal_of (hr.mono (by first | decide | omega)) (by rfl) pass0 (pa_cons (pv 0) (pa_cons (pv 1) pa_nil))))
    (pss_cons (ps_if (pt_cmpR op_notN (pv 2) pe_non (nomark _)) (pss_one ps_never) pss_nil)
    (pss_one (ps_ret (pe_own G_plot_behind_deed (hr.mono (by first | decide | omega)) (by rfl) pass0 (pa_cons (pv 0) (pa_cons (pv 1) pa_nil))))))), ?_⟩
  have hl := hg.len
  have hdep := hg.dep
  refine ⟨_, rfl, _, rfl, a, da, f, d, rfl, hf, hda, hg, hdo, hp, fun H1 s1 => ?_⟩
  refine ⟨_, rfl, rfl, _, rfl, ?_⟩
  exact ⟨_, rfl, _, rfl, a, da, f, d, rfl, hf.mono s1.kp, s1.seqT hda, hp, by omega, by omega, fun H2 c s2 hc => k H2 c (s1.trans s2) hc⟩
theorem sc_run : FnScope ["t", "script", "plot", "deed"] ["t", "script"] (defScope s_run) := ⟨rfl, rfl, rfl, by decide +kernel, rfl, by decide +kernel, by decide +kernel⟩
def sp_run (K : PySem.W.Frag) : Sp := fun vs H Q _ => ∃ (a p : Addr) (f : FS) (x : V) (d : DS), vs = [.ref a, .ref p] ∧ FoA K H f a ∧ Sq1 K H p x ∧ DeA K H d x ∧ Good 12 f ∧ deOk d ∧ POk f d ∧ ∀ H' v, Same H H' → Q v H'
theorem ok_run (D : Df K mg "run" s_run ["t", "script"]) (G_need_plot : Pr P w K mg base CX0 3 "need_plot" ["value"] (sp_need K)) (G_need_script : Pr P w K mg base (L2.CX P w) 5 "need_script" ["script"] (sp_scr K C))
    (G_run_deed : Pr P w K mg base CX0 22 "run_deed" ["t", "deed"] (sp_rund K)) : Pr P w K mg base CX0 23 "run" ["t", "script"] (sp_run K) := by
  refine D.ok sc_run (fun vs H Q E h => ?_) (fun fa cdv A outer s H vs Q E hr h => ?_)
  · obtain ⟨a, p, f, x, d, rfl, _⟩ := h; rfl
  obtain ⟨a, p, f, x, d, rfl, hf, hs, ⟨da, rfl, hda⟩, hg, hdo, hp, k⟩ := h
  have e0 : ∀ {i : Nat} {y : V}, ([V.ref da] : List V)[i]? = some y → i = 0 ∧ y = .ref da := fun {i y} e => by
    cases i with
    | zero => exact ⟨rfl, (Option.some.inj e).symm⟩
    | succ i => simp at e
  have hl := hg.len
  rcases hs with hs | hs
  · refine ⟨_, (pss_cons (ps_expr (pe_own G_need_plot (hr.mono (by first | decide | omega)) (by rfl) pass0 (pa_cons (pv 0) pa_nil)))
    (pss_cons (ps_expr (pe_own G_need_script (hr.mono (by first | decide | omega)) (by rfl) passL (pa_cons (pv 1) pa_nil)))
    (pss_cons (ps_set (i := 2) sc_run.nd rfl (Or.inl rfl) (pv 0))
    (pss_cons (ps_for PassesOwn.never rfl (pi_list (pv 1)) (pg_name (i := 3) sc_run.nd rfl (Or.inl rfl)) (pss_one (ps_set (i := 2) sc_run.nd rfl (Or.inl rfl) (pe_own G_run_deed (hr.mono (by first | decide | omega)) (by rfl) pass0 (pa_cons (pv 2) (pa_cons (pv 3) pa_nil))))))
    (pss_one (ps_ret (pv 2))))))), ?_⟩
    refine ⟨_, rfl, a, f, rfl, hf, by omega, hg.nd, hg.ok, fun H1 s1 => ?_⟩
    refine ⟨_, rfl, p, .ref da, rfl, .inl (s1.seq hs), .inl ⟨d, ⟨da, rfl, s1.seqT hda⟩, hdo, fun H2 s2 => ?_⟩⟩
    have sA := s1.trans s2
    refine ⟨_, rfl, _, rfl, p, rfl, ⟨_, sA.seq hs⟩, for_list (K := K) (a := p) (xs := [V.ref da]) (fun i σ H' => ∃ (v : V) (s1 : Option V), σ = [some (.ref a), some (.ref p), some v, s1] ∧ Same H H' ∧ (i = 0 → v = .ref a)) ⟨.ref a, none, rfl, sA, fun _ => rfl⟩ (fun i σ H' _ z => ?_) (fun i y σ H' hy z => ?_) (fun σ H' z => ?_)⟩
    · obtain ⟨_, _, _, sm, _⟩ := z; exact sm.seq hs
    · obtain ⟨v, s3, rfl, sm, hv⟩ := z
      obtain ⟨rfl, rfl⟩ := e0 hy
      obtain rfl := hv rfl
      exact ⟨_, rfl, _, rfl, a, da, f, d, rfl, hf.mono sm.kp, sm.seqT hda, hg, hdo, hp, fun H3 c s4 _ => ⟨_, _, rfl, sm.trans s4, fun z => absurd z (by decide)⟩⟩
    · obtain ⟨v, s3, rfl, sm, hv⟩ := z
      exact ⟨_, rfl, k H' v sm⟩
  · refine ⟨_, (pss_cons (ps_expr (pe_own G_need_plot (hr.mono (by first | decide | omega)) (by rfl) pass0 (pa_cons (pv 0) pa_nil)))
    (pss_cons (ps_expr (pe_own G_need_script (hr.mono (by first | decide | omega)) (by rfl) passL (pa_cons (pv 1) pa_nil)))
    (pss_cons (ps_set (i := 2) sc_run.nd rfl (Or.inl rfl) (pv 0))
    (pss_cons (ps_for PassesOwn.never rfl (pi_tup (pv 1)) (pg_name (i := 3) sc_run.nd rfl (Or.inl rfl)) (pss_one (ps_set (i := 2) sc_run.nd rfl (Or.inl rfl) (pe_own G_run_deed (hr.mono (by first | decide | omega)) (by rfl) pass0 (pa_cons (pv 2) (pa_cons (pv 3) pa_nil))))))
    (pss_one (ps_ret (pv 2))))))), ?_⟩
    refine ⟨_, rfl, a, f, rfl, hf, by omega, hg.nd, hg.ok, fun H1 s1 => ?_⟩
    refine ⟨_, rfl, p, .ref da, rfl, .inr (s1.seqT hs), .inl ⟨d, ⟨da, rfl, s1.seqT hda⟩, hdo, fun H2 s2 => ?_⟩⟩
    have sA := s1.trans s2
    refine ⟨_, rfl, _, rfl, p, rfl, ⟨_, sA.seqT hs⟩, for_tup (K := K) (a := p) (xs := [V.ref da]) (fun i σ H' => ∃ (v : V) (s1 : Option V), σ = [some (.ref a), some (.ref p), some v, s1] ∧ Same H H' ∧ (i = 0 → v = .ref a)) ⟨.ref a, none, rfl, sA, fun _ => rfl⟩ (fun i σ H' _ z => ?_) (fun i y σ H' hy z => ?_) (fun σ H' z => ?_)⟩
    · obtain ⟨_, _, _, sm, _⟩ := z; exact sm.seqT hs
    · obtain ⟨v, s3, rfl, sm, hv⟩ := z
      obtain ⟨rfl, rfl⟩ := e0 hy
      obtain rfl := hv rfl
      exact ⟨_, rfl, _, rfl, a, da, f, d, rfl, hf.mono sm.kp, sm.seqT hda, hg, hdo, hp, fun H3 c s4 _ => ⟨_, _, rfl, sm.trans s4, fun z => absurd z (by decide)⟩⟩
    · obtain ⟨v, s3, rfl, sm, hv⟩ := z
      exact ⟨_, rfl, k H' v sm⟩
end
end Gf
set_option Elab.async false
set_option linter.all false
set_option maxRecDepth 100000
set_option maxHeartbeats 4000000
namespace Gf
open PySem PySem.Spec PyProof.Rows L2
/-! ### plots as data -/
def daL : FS → List PyData
  | .nil => []
  | .cons m w k r => .tuple [.int m, .str w, .tuple (daL k)] :: daL r
theorem SpA.dp {K : PySem.W.Frag} {H : Hp} : ∀ {f : FS} {vs : List V}, SpA K H f vs → DpAll K H vs (daL f)
  | .nil, _, h => by rw [show _ = [] from h]; exact .nil
  | .cons m w k r, _, ⟨p, q, ks, rest, e, h1, h2, h3, h4⟩ => by
    rw [e]
    exact .cons (.tup h1 (.cons (.int m) (.cons (.str w) (.cons (.tup h2 (SpA.dp h3)) .nil)))) (SpA.dp h4)
theorem FoA.dp {K : PySem.W.Frag} {H : Hp} {f : FS} {a : Addr} : FoA K H f a → Dp K H (.ref a) (.tuple (daL f)) := fun ⟨_, h1, h2⟩ => .tup h1 h2.dp
theorem eqv_daL : ∀ f g : FS, PyData.eqvAll (daL f) (daL g) = true ↔ f = g
  | .nil, .nil => by simp [daL, PyData.eqvAll]
  | .nil, .cons _ _ _ _ => by simp [daL, PyData.eqvAll]
  | .cons _ _ _ _, .nil => by simp [daL, PyData.eqvAll]
  | .cons m w k r, .cons m' w' k' r' => by
    simp only [daL, PyData.eqvAll, PyData.eqv, Bool.and_eq_true, beq_iff_eq, eqv_daL k k', eqv_daL r r', Fo.cons.injEq, and_true, and_assoc]
theorem okW.lay {u : Str} (h : okW u) : PyData.strOk u = true := by
  unfold PyData.strOk
  rw [Array.all_eq_true_iff_forall_mem]
  intro c hc
  have h1 := h.2.2 c (Array.mem_toList_iff.mpr hc)
  have h2 : ∀ c ∈ lettersS.cps.toList, c < 0x110000 := by decide +kernel
  exact decide_eq_true (h2 c h1)
theorem daL_lay : ∀ f : FS, gOk f → PyData.canLayAll0 (daL f) = true
  | .nil, _ => by simp [daL, PyData.canLayAll0]
  | .cons m w k r, h => by
    simp only [daL, PyData.canLayAll0, PyData.canLay0, Bool.and_eq_true, daL_lay k h.2.2.1, daL_lay r h.2.2.2, h.2.1.lay, and_true, and_self]
theorem daL_depth : ∀ f : FS, PyData.depthAll (daL f) ≤ 2 * depth f
  | .nil => by simp [daL, PyData.depthAll]
  | .cons m w k r => by
    have h1 := daL_depth k
    have h2 := daL_depth r
    simp only [daL, PyData.depthAll, PyData.depth, depth_cons]
    omega
theorem Good.shaped {n : Nat} {f : FS} (h : Good n f) (hn : n ≤ 30) : SeqAt.shaped (.tuple (daL f)) = true := by
  have h1 := daL_depth f
  have h2 := h.dep
  unfold SeqAt.shaped
  rw [Bool.and_eq_true]
  refine ⟨?_, decide_eq_true ?_⟩
  · rw [PyData.canLay0]; exact daL_lay f h.ok
  · rw [PyData.depth]; omega
theorem runF_good : ∀ {ds : List DS} {n : Nat} {f g : FS}, Good n f → (∀ d ∈ ds, deOk d) → runF f ds = some g → Good (n + ds.length) g
  | [], n, f, g, h, _, e => by rw [← Option.some.inj e]; exact h
  | d :: ds, n, f, g, h, ok, e => by
    by_cases p : POk f d
    · rw [runF_pos _ p] at e
      have := runF_good (h.step (ok d (List.mem_cons_self ..)) p) (fun x hx => ok x (List.mem_cons_of_mem _ hx)) e
      rw [List.length_cons, show n + (ds.length + 1) = n + 1 + ds.length by omega]
      exact this
    · rw [runF_neg _ p] at e; cases e
/-- deeds stand in a row -/
def DsA (K : PySem.W.Frag) (H : Hp) : List DS → List V → Prop
  | [], vs => vs = []
  | d :: ds, vs => ∃ (x : V) (rest : List V), vs = x :: rest ∧ DeA K H d x ∧ deOk d ∧ DsA K H ds rest
section
variable {P : Program} {w : World} {K : PySem.W.Frag} {mg : Str → Option Value} {base : Heap} {lt mt : Tok} {H H' : Hp} {C fI cda cc : Addr}
theorem DsA.at : ∀ {ds : List DS} {vs : List V} {i : Nat} {y : V}, DsA K H ds vs → vs[i]? = some y → ∃ d, ds.drop i = d :: ds.drop (i + 1) ∧ DeA K H d y ∧ deOk d
  | [], _, _, _, h, e => by rw [show _ = [] from h] at e; simp at e
  | d :: ds, _, 0, y, ⟨x, rest, e1, h1, h2, h3⟩, e => by
    rw [e1] at e
    obtain rfl := Option.some.inj e
    exact ⟨d, rfl, h1, h2⟩
  | d :: ds, _, i + 1, y, ⟨x, rest, e1, h1, h2, h3⟩, e => by
    rw [e1] at e
    obtain ⟨d', q1, q2, q3⟩ := DsA.at (i := i) h3 e
    exact ⟨d', q1, q2, q3⟩
theorem DsA.len : ∀ {ds : List DS} {vs : List V}, DsA K H ds vs → vs.length = ds.length
  | [], _, h => by rw [show _ = [] from h]; rfl
  | d :: ds, _, ⟨x, rest, e1, h1, h2, h3⟩ => by rw [e1, List.length_cons, List.length_cons, DsA.len h3]
theorem DsA.mono (h : Kp K H H') : ∀ {ds : List DS} {vs : List V}, DsA K H ds vs → DsA K H' ds vs
  | [], _, q => q
  | d :: ds, _, ⟨x, rest, e1, h1, h2, h3⟩ => ⟨x, rest, e1, h1.mono h, h2, DsA.mono h h3⟩
theorem sc_reached : FnScope ["t", "script", "plot", "deed"] ["t", "script"] (defScope s_reached) := ⟨rfl, rfl, rfl, by decide +kernel, rfl, by decide +kernel, by decide +kernel⟩
def sp_reach (K : PySem.W.Frag) : Sp := fun vs H Q _ => ∃ (a p : Addr) (f : FS) (ds : List DS) (xs : List V), vs = [.ref a, .ref p] ∧ FoA K H f a ∧ (SqL K H p xs ∨ SqT K H p xs) ∧ DsA K H ds xs ∧ Good 12 f ∧ ds.length ≤ 2 ∧
  (∀ g, runF f ds = some g → ∀ H' c, Same H H' → FoA K H' g c → Q (.ref c) H') ∧ (runF f ds = none → ∀ H', Same H H' → Q .non H')
theorem ok_reached (D : Df K mg "reached" s_reached ["t", "script"]) (G_reason_at : Pr P w K mg base CX0 20 "reason_at" ["t", "deed"] (sp_reason K)) (G_plot_behind_deed : Pr P w K mg base CX0 21 "plot_behind_deed" ["t", "deed"] (sp_behind K)) :
    Pr P w K mg base CX0 22 "reached" ["t", "script"] (sp_reach K) := by
  refine D.ok sc_reached (fun vs H Q E h => ?_) (fun fa cdv A outer s H vs Q E hr h => ?_)
  · obtain ⟨a, p, f, ds, xs, rfl, _⟩ := h; rfl
  obtain ⟨a, p, f, ds, xs, rfl, hf, hs, hds, hg, hl, qs, qn⟩ := h
  have hxl := hds.len
  rcases hs with hs | hs
  · refine ⟨_, (pss_cons (ps_set (i := 2) sc_reached.nd rfl (Or.inl rfl) (pv 0))
    (pss_cons (ps_for PassesOwn.never rfl (pi_list (pv 1)) (pg_name (i := 3) sc_reached.nd rfl (Or.inl rfl)) (pss_cons (ps_if (pt_cmpR op_notN (pe_own G_reason_at (hr.mono (by first | decide | omega)) (by rfl) pass0 (pa_cons (pv 2) (pa_cons (pv 3) pa_nil))) pe_non (nomark _)) (pss_one (ps_ret pe_non)) pss_nil)
    (pss_one (ps_set (i := 2) sc_reached.nd rfl (Or.inl rfl) (pe_own G_plot_behind_deed (hr.mono (by first | decide | omega)) (by rfl) pass0 (pa_cons (pv 2) (pa_cons (pv 3) pa_nil)))))))
    (pss_one (ps_ret (pv 2))))), ?_⟩
    refine ⟨_, rfl, _, rfl, p, rfl, ⟨_, hs⟩, for_list (K := K) (a := p) (xs := xs) (fun i σ H' => i ≤ 2 ∧ ∃ (c : Addr) (g : FS) (s1 : Option V), σ = [some (.ref a), some (.ref p), some (.ref c), s1] ∧ Same H H' ∧ FoA K H' g c ∧ Good (12 + i) g ∧ runF f ds = runF g (ds.drop i)) ⟨by omega, a, f, none, rfl, Same.refl H, hf, hg, rfl⟩ (fun i σ H' _ z => ?_) (fun i y σ H' hy z => ?_) (fun σ H' z => ?_)⟩
    · obtain ⟨_, _, _, _, _, sm, _⟩ := z; exact sm.seq hs
    · obtain ⟨hi, c, g, s1, rfl, sm, hc, gg, hrun⟩ := z
      obtain ⟨d, hd1, ⟨da, rfl, hd2⟩, hd3⟩ := hds.at hy
      have hil : i < xs.length := (List.getElem?_eq_some_iff.mp hy).1
      have g1 := gg.len
      have g2 := gg.dep
      refine ⟨_, rfl, ?_⟩
      refine ⟨_, rfl, c, da, g, d, rfl, hc, sm.seqT hd2, by omega, by omega, gg.nd, gg.pos, hd3.pos, fun hp H1 s2 => ?_, fun hp H1 z s2 => ?_⟩
      · refine ⟨rfl, _, rfl, itF (by decide +kernel) ?_⟩
        refine ⟨_, rfl, _, rfl, c, da, g, d, rfl, hc.mono s2.kp, (sm.trans s2).seqT hd2, hp, by omega, by omega, fun H2 c2 s3 hc2 => ?_⟩
        refine ⟨by omega, c2, behind g d, _, rfl, (sm.trans s2).trans s3, hc2, gg.step hd3 hp, ?_⟩
        rw [hrun, hd1, runF_pos _ hp]
      · refine ⟨rfl, _, rfl, itT (by simp) ?_⟩
        exact qn (by rw [hrun, hd1, runF_neg _ hp]) H1 (sm.trans s2)
    · obtain ⟨hi, c, g, s1, rfl, sm, hc, gg, hrun⟩ := z
      refine ⟨_, rfl, qs g ?_ H' c sm hc⟩
      rw [hrun, List.drop_eq_nil_of_le (by omega)]
      rfl
  · refine ⟨_, (pss_cons (ps_set (i := 2) sc_reached.nd rfl (Or.inl rfl) (pv 0))
    (pss_cons (ps_for PassesOwn.never rfl (pi_tup (pv 1)) (pg_name (i := 3) sc_reached.nd rfl (Or.inl rfl)) (pss_cons (ps_if (pt_cmpR op_notN (pe_own G_reason_at (hr.mono (by first | decide | omega)) (by rfl) pass0 (pa_cons (pv 2) (pa_cons (pv 3) pa_nil))) pe_non (nomark _)) (pss_one (ps_ret pe_non)) pss_nil)
    (pss_one (ps_set (i := 2) sc_reached.nd rfl (Or.inl rfl) (pe_own G_plot_behind_deed (hr.mono (by first | decide | omega)) (by rfl) pass0 (pa_cons (pv 2) (pa_cons (pv 3) pa_nil)))))))
    (pss_one (ps_ret (pv 2))))), ?_⟩
    refine ⟨_, rfl, _, rfl, p, rfl, ⟨_, hs⟩, for_tup (K := K) (a := p) (xs := xs) (fun i σ H' => i ≤ 2 ∧ ∃ (c : Addr) (g : FS) (s1 : Option V), σ = [some (.ref a), some (.ref p), some (.ref c), s1] ∧ Same H H' ∧ FoA K H' g c ∧ Good (12 + i) g ∧ runF f ds = runF g (ds.drop i)) ⟨by omega, a, f, none, rfl, Same.refl H, hf, hg, rfl⟩ (fun i σ H' _ z => ?_) (fun i y σ H' hy z => ?_) (fun σ H' z => ?_)⟩
    · obtain ⟨_, _, _, _, _, sm, _⟩ := z; exact sm.seqT hs
    · obtain ⟨hi, c, g, s1, rfl, sm, hc, gg, hrun⟩ := z
      obtain ⟨d, hd1, ⟨da, rfl, hd2⟩, hd3⟩ := hds.at hy
      have hil : i < xs.length := (List.getElem?_eq_some_iff.mp hy).1
      have g1 := gg.len
      have g2 := gg.dep
      refine ⟨_, rfl, ?_⟩
      refine ⟨_, rfl, c, da, g, d, rfl, hc, sm.seqT hd2, by omega, by omega, gg.nd, gg.pos, hd3.pos, fun hp H1 s2 => ?_, fun hp H1 z s2 => ?_⟩
      · refine ⟨rfl, _, rfl, itF (by decide +kernel) ?_⟩
        refine ⟨_, rfl, _, rfl, c, da, g, d, rfl, hc.mono s2.kp, (sm.trans s2).seqT hd2, hp, by omega, by omega, fun H2 c2 s3 hc2 => ?_⟩
        refine ⟨by omega, c2, behind g d, _, rfl, (sm.trans s2).trans s3, hc2, gg.step hd3 hp, ?_⟩
        rw [hrun, hd1, runF_pos _ hp]
      · refine ⟨rfl, _, rfl, itT (by simp) ?_⟩
        exact qn (by rw [hrun, hd1, runF_neg _ hp]) H1 (sm.trans s2)
    · obtain ⟨hi, c, g, s1, rfl, sm, hc, gg, hrun⟩ := z
      refine ⟨_, rfl, qs g ?_ H' c sm hc⟩
      rw [hrun, List.drop_eq_nil_of_le (by omega)]
      rfl
theorem sc_met : FnScope ["t", "p", "q", "one", "other"] ["t", "p", "q"] (defScope s_met) := ⟨rfl, rfl, rfl, by decide +kernel, rfl, by decide +kernel, by decide +kernel⟩
theorem Sq1.any {a : Addr} {x : V} (h : Sq1 K H a x) : SqL K H a [x] ∨ SqT K H a [x] := h
def sp_met (K : PySem.W.Frag) : Sp := fun vs H Q _ => ∃ (a p q : Addr) (f : FS) (x y : V) (d e : DS), vs = [.ref a, .ref p, .ref q] ∧ FoA K H f a ∧ Sq1 K H p x ∧ Sq1 K H q y ∧ DeA K H d x ∧ DeA K H e y ∧ deOk d ∧ deOk e ∧ Good 12 f ∧
  (∀ g, Free f d e g → ∀ H' c, Same H H' → FoA K H' g c → Q (.ref c) H') ∧ ((∀ g, ¬ Free f d e g) → ∀ H', Same H H' → Q .non H')
def ReA (K : PySem.W.Frag) (H : Hp) (f : FS) (ds : List DS) (v : V) : Prop := (∃ g c, v = .ref c ∧ FoA K H g c ∧ runF f ds = some g) ∨ (v = .non ∧ runF f ds = none)
def sp_rch (K : PySem.W.Frag) : Sp := fun vs H Q _ => ∃ (a p : Addr) (f : FS) (ds : List DS) (xs : List V), vs = [.ref a, .ref p] ∧ FoA K H f a ∧ (SqL K H p xs ∨ SqT K H p xs) ∧ DsA K H ds xs ∧ Good 12 f ∧ ds.length ≤ 2 ∧ ∀ v H', Same H H' → ReA K H' f ds v → Q v H'
theorem reach_any : ∀ vs H Q E, sp_rch K vs H Q E → sp_reach K vs H Q E := fun vs H Q E ⟨a, p, f, ds, xs, h1, h2, h3, h4, h5, h6, h⟩ =>
  ⟨a, p, f, ds, xs, h1, h2, h3, h4, h5, h6, fun g e H' c s q => h _ H' s (.inl ⟨g, c, rfl, q, e⟩), fun e H' s => h _ H' s (.inr ⟨rfl, e⟩)⟩
theorem ok_met (D : Df K mg "met" s_met ["t", "p", "q"]) (B : Bi mg) (G_reached : Pr P w K mg base CX0 22 "reached" ["t", "script"] (sp_reach K)) : Pr P w K mg base CX0 23 "met" ["t", "p", "q"] (sp_met K) := by
  have G_reached := G_reached.imp reach_any
  refine D.ok sc_met (fun vs H Q E h => ?_) (fun fa cdv A outer s H vs Q E hr h => ?_)
  · obtain ⟨a, p, q, f, x, y, d, e, rfl, _⟩ := h; rfl
  obtain ⟨a, p, q, f, x, y, d, e, rfl, hf, hp, hq, hd, he, hdo, heo, hg, qs, qn⟩ := h
  refine ⟨_, (pss_cons (ps_if (PW.pt (pw_or (pt_cmpR op_isN (pe_own G_reached (hr.mono (by first | decide | omega)) (by rfl) pass0 (pa_cons (pv 0) (pa_cons (pv 1) pa_nil))) pe_non (nomark _)) (pw_or1 (pt_cmpR op_isN (pe_own G_reached (hr.mono (by first | decide | omega)) (by rfl) pass0 (pa_cons (pv 0) (pa_cons (pv 2) pa_nil))) pe_non (nomark _))))) (pss_one (ps_ret pe_non)) pss_nil)
    (pss_cons (ps_set (i := 3) sc_met.nd rfl (Or.inl rfl) (pe_own G_reached (hr.mono (by first | decide | omega)) (by rfl) pass0 (pa_cons (pv 0) (pa_cons (pe_op op_cat (pe_callTy call_list_of (by rfl) B.tlist (by decide +kernel) (pa_cons (pv 1) pa_nil)) (pe_callTy call_list_of (by rfl) B.tlist (by decide +kernel) (pa_cons (pv 2) pa_nil))) pa_nil))))
    (pss_cons (ps_set (i := 4) sc_met.nd rfl (Or.inl rfl) (pe_own G_reached (hr.mono (by first | decide | omega)) (by rfl) pass0 (pa_cons (pv 0) (pa_cons (pe_op op_cat (pe_callTy call_list_of (by rfl) B.tlist (by decide +kernel) (pa_cons (pv 2) pa_nil)) (pe_callTy call_list_of (by rfl) B.tlist (by decide +kernel) (pa_cons (pv 1) pa_nil))) pa_nil))))
    (pss_cons (ps_if (PW.pt (pw_or (pt_cmpR op_isN (pv 3) pe_non (nomark _)) (pw_or1 (pt_cmpR (op_neD hr.units) (pv 3) (pv 4) (nomark _))))) (pss_one (ps_ret pe_non)) pss_nil)
    (pss_one (ps_ret (pv 3))))))), ?_⟩
  have one : ∀ {H1 : Hp} {z : V} {u : DS}, Same H H1 → DeA K H u z → deOk u → DsA K H1 [u] [z] := fun s h o => ⟨_, _, rfl, h.mono s.kp, o, rfl⟩
  have hdc : ∀ {z : Addr}, decide (V.ref z = V.non) = false := fun {z} => by simp
  -- reached(t, p)
  refine ⟨_, rfl, _, rfl, a, p, f, [d], [x], rfl, hf, hp, one (Same.refl H) hd hdo, hg, Nat.le_succ 1, fun v1 H1 s1 h1 => ?_⟩
  rcases h1 with ⟨g1, c1, rfl, hc1, e1⟩ | ⟨rfl, e1⟩
  rotate_left
  · refine ⟨rfl, _, rfl, itT (by simp) ?_⟩
    refine qn (fun g z => ?_) H1 s1
    rw [runF_pos _ z.ok1.1] at e1
    cases e1
  refine ⟨rfl, _, rfl, itF (by simp) ?_⟩
  -- reached(t, q)
  refine ⟨_, rfl, _, rfl, a, q, f, [e], [y], rfl, hf.mono s1.kp, hq.same s1, one s1 he heo, hg, Nat.le_succ 1, fun v2 H2 s2 h2 => ?_⟩
  rcases h2 with ⟨g2, c2, rfl, hc2, e2⟩ | ⟨rfl, e2⟩
  rotate_left
  · refine ⟨rfl, _, rfl, itT (by simp) ?_⟩
    refine qn (fun g z => ?_) H2 (s1.trans s2)
    rw [runF_pos _ z.ok1.2] at e2
    cases e2
  refine ⟨rfl, _, rfl, itF (by simp) ?_⟩
  have sA := s1.trans s2
  have two : ∀ {H1 : Hp} {z1 z2 : V} {u1 u2 : DS}, Same H H1 → DeA K H u1 z1 → deOk u1 → DeA K H u2 z2 → deOk u2 → DsA K H1 [u1, u2] [z1, z2] := fun s h o h' o' => ⟨_, _, rfl, h.mono s.kp, o, _, _, rfl, h'.mono s.kp, o', rfl⟩
  have hdc : ∀ {z : Addr}, decide (V.ref z = V.non) = false := fun {z} => by simp
  -- one
  refine ⟨_, rfl, _, rfl, p, [x], rfl, hp.same sA, fun l1 n1 => ?_⟩
  have b1 := sA.over (u := .lst [x]) (by
    cases c : H l1 with
    | none => rfl
    | some o => rw [sA _ _ c] at n1; cases n1)
  refine ⟨_, rfl, q, [y], rfl, hq.same b1, fun l2 n2 => ?_⟩
  have b2 := b1.trans (same_upd (o := .lst [y]) n2)
  refine ⟨l1, l2, [x], [y], rfl, rfl, same_upd n2 _ _ upd_same, upd_same, Nat.le_of_lt (small1000 (show 2 ≤ 1000 by decide)), fun l3 n3 => ?_⟩
  have b3 := b2.trans (same_upd (o := .lst ([x] ++ [y])) n3)
  refine ⟨a, l3, f, [d, e], [x, y], rfl, hf.mono b3.kp, .inl (.inl (.inl upd_same)), two b3 hd hdo he heo, hg, Nat.le_refl 2, fun v1 H3 s3 h3 => ?_⟩
  have sB := b3.trans s3
  -- other
  refine ⟨_, rfl, _, rfl, q, [y], rfl, hq.same sB, fun m1 n1 => ?_⟩
  have d1 := s3.trans (same_upd (o := .lst [y]) n1)
  have c1 := b3.trans d1
  refine ⟨_, rfl, p, [x], rfl, hp.same c1, fun m2 n2 => ?_⟩
  have d2 := d1.trans (same_upd (o := .lst [x]) n2)
  have c2 := b3.trans d2
  refine ⟨m1, m2, [y], [x], rfl, rfl, same_upd n2 _ _ upd_same, upd_same, Nat.le_of_lt (small1000 (show 2 ≤ 1000 by decide)), fun m3 n3 => ?_⟩
  have d3 := (same_upd (o := .lst [y]) n1).trans ((same_upd (o := .lst [x]) n2).trans (same_upd (o := .lst ([y] ++ [x])) n3))
  have c3 := sB.trans d3
  refine ⟨a, m3, f, [e, d], [y, x], rfl, hf.mono c3.kp, .inl (.inl (.inl upd_same)), two c3 he heo hd hdo, hg, Nat.le_refl 2, fun v2 H4 s4 h4 => ?_⟩
  have sC := c3.trans s4
  have dd := d3.trans s4
  -- one is None or one != other
  rcases h3 with ⟨g3, o3, rfl, f3, r3⟩ | ⟨rfl, r3⟩
  · refine ⟨_, rfl, rfl, _, rfl, itF (by simp) ?_⟩
    have sh3 := (runF_good (ds := [d, e]) hg (by intro z hz; simp at hz; rcases hz with rfl | rfl <;> assumption) r3).shaped (show 14 ≤ 30 by decide)
    rcases h4 with ⟨g4, o4, rfl, f4, r4⟩ | ⟨rfl, r4⟩
    · have sh4 := (runF_good (ds := [e, d]) hg (by intro z hz; simp at hz; rcases hz with rfl | rfl <;> assumption) r4).shaped (show 14 ≤ 30 by decide)
      refine ⟨_, rfl, _, rfl, _, _, (f3.mono dd.kp).dp, f4.dp, sh3, sh4, _, rfl, ?_⟩
      by_cases c : g3 = g4
      · refine itF (by rw [PyData.eqv, (eqv_daL g3 g4).mpr c]; rfl) ?_
        exact ⟨_, rfl, qs g3 ⟨r3, by rw [c]; exact r4⟩ H4 o3 sC (f3.mono dd.kp)⟩
      · refine itT (by
          cases z : PyData.eqv (.tuple (daL g3)) (.tuple (daL g4)) with
          | false => rfl
          | true => exact absurd ((eqv_daL g3 g4).mp (by rw [PyData.eqv] at z; exact z)) c) ?_
        exact qn (fun g z => c ((Option.some.inj (r3.symm.trans z.1)).trans (Option.some.inj (r4.symm.trans z.2)).symm)) H4 sC
    · refine ⟨_, rfl, _, rfl, _, _, (f3.mono dd.kp).dp, .non, sh3, rfl, _, rfl, itT (by simp [PyData.eqv]) ?_⟩
      exact qn (fun g z => by rw [z.2] at r4; cases r4) H4 sC
  · refine ⟨_, rfl, rfl, _, rfl, itT (by simp) ?_⟩
    exact qn (fun g z => by rw [z.1] at r3; cases r3) H4 sC
end
end Gf
set_option Elab.async false
set_option linter.all false
set_option maxRecDepth 100000
set_option maxHeartbeats 4000000
namespace Gf
open PySem PySem.Spec PyProof.Rows L2
section
variable {P : Program} {w : World} {K : PySem.W.Frag} {mg : Str → Option Value} {base : Heap} {lt mt : Tok} {H H' : Hp} {C fI cda cc : Addr}
/-- what met tells -/
def MeA (K : PySem.W.Frag) (H : Hp) (f : FS) (d e : DS) (v : V) : Prop := (∃ g c, v = .ref c ∧ FoA K H g c ∧ Free f d e g) ∨ (v = .non ∧ ∀ g, ¬ Free f d e g)
def sp_met2 (K : PySem.W.Frag) : Sp := fun vs H Q _ => ∃ (a p q : Addr) (f : FS) (x y : V) (d e : DS), vs = [.ref a, .ref p, .ref q] ∧ FoA K H f a ∧ Sq1 K H p x ∧ Sq1 K H q y ∧ DeA K H d x ∧ DeA K H e y ∧ deOk d ∧ deOk e ∧ Good 12 f ∧
  ∀ v H', Same H H' → MeA K H' f d e v → Q v H'
theorem met_any : ∀ vs H Q E, sp_met2 K vs H Q E → sp_met K vs H Q E := fun vs H Q E ⟨a, p, q, f, x, y, d, e, h1, h2, h3, h4, h5, h6, h7, h8, h9, h⟩ =>
  ⟨a, p, q, f, x, y, d, e, h1, h2, h3, h4, h5, h6, h7, h8, h9, fun g z H' c s r => h _ H' s (.inl ⟨g, c, rfl, r, z⟩), fun z H' s => h _ H' s (.inr ⟨rfl, z⟩)⟩
theorem sc_are_free : FnScope ["t", "d", "e"] ["t", "d", "e"] (defScope s_are_free) := ⟨rfl, rfl, rfl, by decide +kernel, rfl, by decide +kernel, by decide +kernel⟩
def sp_free (K : PySem.W.Frag) (C : Addr) : Sp := fun vs H Q E => ∃ (a : Addr) (f : FS) (x y : V), vs = [.ref a, x, y] ∧ FoA K H f a ∧ Good 12 f ∧
  ((∃ d e : DS, DeA K H d x ∧ DeA K H e y ∧ deOk d ∧ deOk e ∧ ∀ H' b, Same H H' → (b = true ↔ ∃ g, Free f d e g) → Q (.bl b) H') ∨
    (Bad K H x ∧ ∀ H' dd, Same H H' → H' dd = some (.xd [(("value" : Str), x)]) → E (.ref C) (some dd) H') ∨
    ((∃ d : DS, DeA K H d x ∧ deOk d) ∧ Bad K H y ∧ ∀ H' dd, Same H H' → H' dd = some (.xd [(("value" : Str), y)]) → E (.ref C) (some dd) H'))
theorem ok_are_free (D : Df K mg "are_free" s_are_free ["t", "d", "e"]) (G_need_scripts : Pr P w K mg base (L2.CX P w) 6 "need_scripts" ["t", "p", "q"] (sp_scrs K C)) (G_met : Pr P w K mg base CX0 23 "met" ["t", "p", "q"] (sp_met K)) :
    Pr P w K mg base (L2.CX P w) 24 "are_free" ["t", "d", "e"] (sp_free K C) := by
  have G_met := G_met.imp met_any
  refine D.okX sc_are_free (fun vs H Q E h => ?_) (fun fa cdv A outer s H vs Q E hr h => ?_)
  · obtain ⟨a, f, x, y, rfl, _⟩ := h; rfl
  obtain ⟨a, f, x, y, rfl, hf, hg, h⟩ := h
  refine ⟨_, (pss_cons (ps_expr (pe_own G_need_scripts (hr.mono (by first | decide | omega)) (by rfl) (passes_call (takes_of rfl rfl rfl rfl) (fun _ _ _ _ z => z)) (pa_cons (pv 0) (pa_cons (pe_lst (pa_cons (pv 1) pa_nil)) (pa_cons (pe_lst (pa_cons (pv 2) pa_nil)) pa_nil)))))
    (pss_one (ps_ret (pe_cmpR op_notN (pe_own G_met (hr.mono (by first | decide | omega)) (by rfl) pass0 (pa_cons (pv 0) (pa_cons (pe_lst (pa_cons (pv 1) pa_nil)) (pa_cons (pe_lst (pa_cons (pv 2) pa_nil)) pa_nil)))) pe_non (nomark _))))), ?_⟩
  have h1 : 1 ≤ sizeLine := Nat.le_of_lt (small1000 (show 1 ≤ 1000 by decide))
  refine ⟨_, rfl, _, rfl, h1, fun l1 n1 => ⟨_, rfl, h1, fun l2 n2 => ?_⟩⟩
  have b1 := same_upd (o := .lst [x]) n1
  have b2 := b1.trans (same_upd (o := .lst [y]) n2)
  refine ⟨a, l1, l2, f, x, y, rfl, hf.mono b2.kp, hg, .inl (.inl (.inl (same_upd n2 _ _ upd_same))), .inl (.inl (.inl upd_same)), ?_⟩
  rcases h with ⟨d, e, hd, he, hdo, heo, k⟩ | ⟨hb, k⟩ | ⟨⟨d, hd, hdo⟩, hb, k⟩
  · refine .inl ⟨⟨d, hd.mono b2.kp, hdo⟩, ⟨e, he.mono b2.kp, heo⟩, fun H3 s3 => ?_⟩
    have b3 := b2.trans s3
    refine ⟨_, rfl, _, rfl, h1, fun l4 n4 => ⟨_, rfl, h1, fun l5 n5 => ?_⟩⟩
    have b5 := (b3.trans (same_upd (o := .lst [x]) n4)).trans (same_upd (o := .lst [y]) n5)
    refine ⟨a, l4, l5, f, x, y, d, e, rfl, hf.mono b5.kp, .inl (.inl (.inl (same_upd n5 _ _ upd_same))), .inl (.inl (.inl upd_same)), hd.mono b5.kp, he.mono b5.kp, hdo, heo, hg, fun v H6 s6 h6 => ?_⟩
    refine ⟨rfl, ?_⟩
    rcases h6 with ⟨g, c, rfl, _, r⟩ | ⟨rfl, r⟩
    · exact k H6 _ (b5.trans s6) ⟨fun _ => ⟨g, r⟩, fun _ => by simp⟩
    · exact k H6 _ (b5.trans s6) ⟨fun z => by simp at z, fun ⟨g, z⟩ => absurd z (r g)⟩
  · exact .inr (.inl ⟨hb.same b2, fun H3 dd s3 hdd => k H3 dd (b2.trans s3) hdd⟩)
  · exact .inr (.inr ⟨⟨d, hd.mono b2.kp, hdo⟩, hb.same b2, fun H3 dd s3 hdd => k H3 dd (b2.trans s3) hdd⟩)
theorem sc_agree : FnScope ["t", "p", "q"] ["t", "p", "q"] (defScope s_agree) := ⟨rfl, rfl, rfl, by decide +kernel, rfl, by decide +kernel, by decide +kernel⟩
def sp_agree (K : PySem.W.Frag) : Sp := fun vs H Q _ => ∃ (a p q : Addr) (f : FS) (x y : V) (d e : DS), vs = [.ref a, .ref p, .ref q] ∧ FoA K H f a ∧ Sq1 K H p x ∧ Sq1 K H q y ∧ DeA K H d x ∧ DeA K H e y ∧ deOk d ∧ deOk e ∧ Good 12 f ∧
  ∀ H' b, Same H H' → (b = true ↔ ∃ g, Free f d e g) → Q (.bl b) H'
theorem ok_agree (D : Df K mg "agree" s_agree ["t", "p", "q"]) (G_need_scripts : Pr P w K mg base (L2.CX P w) 6 "need_scripts" ["t", "p", "q"] (sp_scrs K C)) (G_met : Pr P w K mg base CX0 23 "met" ["t", "p", "q"] (sp_met K)) :
    Pr P w K mg base CX0 24 "agree" ["t", "p", "q"] (sp_agree K) := by
  have G_met := G_met.imp met_any
  refine D.ok sc_agree (fun vs H Q E h => ?_) (fun fa cdv A outer s H vs Q E hr h => ?_)
  · obtain ⟨a, p, q, f, x, y, d, e, rfl, _⟩ := h; rfl
  obtain ⟨a, p, q, f, x, y, d, e, rfl, hf, hp, hq, hd, he, hdo, heo, hg, k⟩ := h
  refine ⟨_, (pss_cons (ps_expr (pe_own G_need_scripts (hr.mono (by first | decide | omega)) (by rfl) passL (pa_cons (pv 0) (pa_cons (pv 1) (pa_cons (pv 2) pa_nil)))))
    (pss_one (ps_ret (pe_cmpR op_notN (pe_own G_met (hr.mono (by first | decide | omega)) (by rfl) pass0 (pa_cons (pv 0) (pa_cons (pv 1) (pa_cons (pv 2) pa_nil)))) pe_non (nomark _))))), ?_⟩
  refine ⟨_, rfl, _, rfl, _, rfl, a, p, q, f, x, y, rfl, hf, hg, hp, hq, .inl ⟨⟨d, hd, hdo⟩, ⟨e, he, heo⟩, fun H3 s3 => ?_⟩⟩
  refine ⟨_, rfl, _, rfl, _, rfl, a, p, q, f, x, y, d, e, rfl, hf.mono s3.kp, hp.same s3, hq.same s3, hd.mono s3.kp, he.mono s3.kp, hdo, heo, hg, fun v H6 s6 h6 => ?_⟩
  refine ⟨rfl, ?_⟩
  rcases h6 with ⟨g, c, rfl, _, r⟩ | ⟨rfl, r⟩
  · exact k H6 _ (s3.trans s6) ⟨fun _ => ⟨g, r⟩, fun _ => by simp⟩
  · exact k H6 _ (s3.trans s6) ⟨fun z => by simp at z, fun ⟨g, z⟩ => absurd z (r g)⟩
theorem sc_need_runs : FnScope ["t", "p", "q"] ["t", "p", "q"] (defScope s_need_runs) := ⟨rfl, rfl, rfl, by decide +kernel, rfl, by decide +kernel, by decide +kernel⟩
def sp_runs (K : PySem.W.Frag) : Sp := fun vs H Q _ => ∃ (a p q : Addr) (f : FS) (x y : V) (d e : DS), vs = [.ref a, .ref p, .ref q] ∧ FoA K H f a ∧ Sq1 K H p x ∧ Sq1 K H q y ∧ DeA K H d x ∧ DeA K H e y ∧ deOk d ∧ deOk e ∧ Good 12 f ∧ POk f d ∧ POk f e ∧
  ∀ H', Same H H' → Q .non H'
theorem ok_need_runs (D : Df K mg "need_runs" s_need_runs ["t", "p", "q"]) (G_need_scripts : Pr P w K mg base (L2.CX P w) 6 "need_scripts" ["t", "p", "q"] (sp_scrs K C)) (G_run : Pr P w K mg base CX0 23 "run" ["t", "script"] (sp_run K)) :
    Pr P w K mg base CX0 24 "need_runs" ["t", "p", "q"] (sp_runs K) := by
  refine D.ok sc_need_runs (fun vs H Q E h => ?_) (fun fa cdv A outer s H vs Q E hr h => ?_)
  · obtain ⟨a, p, q, f, x, y, d, e, rfl, _⟩ := h; rfl
  obtain ⟨a, p, q, f, x, y, d, e, rfl, hf, hp, hq, hd, he, hdo, heo, hg, od, oe, k⟩ := h
  refine ⟨_, (pss_cons (ps_expr (pe_own G_need_scripts (hr.mono (by first | decide | omega)) (by rfl) passL (pa_cons (pv 0) (pa_cons (pv 1) (pa_cons (pv 2) pa_nil)))))
    (pss_cons (ps_expr (pe_own G_run (hr.mono (by first | decide | omega)) (by rfl) pass0 (pa_cons (pv 0) (pa_cons (pv 1) pa_nil))))
    (pss_one (ps_expr (pe_own G_run (hr.mono (by first | decide | omega)) (by rfl) pass0 (pa_cons (pv 0) (pa_cons (pv 2) pa_nil))))))), ?_⟩
  refine ⟨_, rfl, _, rfl, _, rfl, a, p, q, f, x, y, rfl, hf, hg, hp, hq, .inl ⟨⟨d, hd, hdo⟩, ⟨e, he, heo⟩, fun H1 s1 => ?_⟩⟩
  refine ⟨_, rfl, _, rfl, a, p, f, x, d, rfl, hf.mono s1.kp, hp.same s1, hd.mono s1.kp, hg, hdo, od, fun H2 v2 s2 => ?_⟩
  have sA := s1.trans s2
  exact ⟨_, rfl, _, rfl, a, q, f, y, e, rfl, hf.mono sA.kp, hq.same sA, he.mono sA.kp, hg, heo, oe, fun H3 v3 s3 => k H3 (sA.trans s3)⟩
theorem sc_merged : FnScope ["t", "p", "q", "plot", "d", "e"] ["t", "p", "q"] (defScope s_merged) := ⟨rfl, rfl, rfl, by decide +kernel, rfl, by decide +kernel, by decide +kernel⟩
def sp_merged (K : PySem.W.Frag) : Sp := fun vs H Q _ => ∃ (a p q : Addr) (f : FS) (x y : V) (d e : DS), vs = [.ref a, .ref p, .ref q] ∧ FoA K H f a ∧ Sq1 K H p x ∧ Sq1 K H q y ∧ DeA K H d x ∧ DeA K H e y ∧ deOk d ∧ deOk e ∧ Good 12 f ∧
  ∃ g, Free f d e g ∧ ∀ H' c, Same H H' → FoA K H' g c → Q (.ref c) H'
theorem ok_merged (D : Df K mg "merged" s_merged ["t", "p", "q"]) (G_need_runs : Pr P w K mg base CX0 24 "need_runs" ["t", "p", "q"] (sp_runs K)) (G_met : Pr P w K mg base CX0 23 "met" ["t", "p", "q"] (sp_met K)) :
    Pr P w K mg base CX0 25 "merged" ["t", "p", "q"] (sp_merged K) := by
  have G_met := G_met.imp met_any
  refine D.ok sc_merged (fun vs H Q E h => ?_) (fun fa cdv A outer s H vs Q E hr h => ?_)
  · obtain ⟨a, p, q, f, x, y, d, e, rfl, _⟩ := h; rfl
  obtain ⟨a, p, q, f, x, y, d, e, rfl, hf, hp, hq, hd, he, hdo, heo, hg, g, hfr, k⟩ := h
  refine ⟨_, (pss_cons (ps_expr (pe_own G_need_runs (hr.mono (by first | decide | omega)) (by rfl) pass0 (pa_cons (pv 0) (pa_cons (pv 1) (pa_cons (pv 2) pa_nil)))))
    (pss_cons (ps_set (i := 3) sc_merged.nd rfl (Or.inl rfl) (pe_own G_met (hr.mono (by first | decide | omega)) (by rfl) pass0 (pa_cons (pv 0) (pa_cons (pv 1) (pa_cons (pv 2) pa_nil)))))
    (pss_cons (ps_if (pt_cmpR op_isN (pv 3) pe_non (nomark _)) pss_never pss_nil)
    (pss_one (ps_ret (pv 3)))))), ?_⟩
  refine ⟨_, rfl, _, rfl, _, rfl, a, p, q, f, x, y, d, e, rfl, hf, hp, hq, hd, he, hdo, heo, hg, hfr.ok1.1, hfr.ok1.2, fun H3 s3 => ?_⟩
  refine ⟨_, rfl, _, rfl, _, rfl, a, p, q, f, x, y, d, e, rfl, hf.mono s3.kp, hp.same s3, hq.same s3, hd.mono s3.kp, he.mono s3.kp, hdo, heo, hg, fun v H6 s6 h6 => ?_⟩
  rcases h6 with ⟨g', c, rfl, fc, r⟩ | ⟨rfl, r⟩
  · have e1 := free_one r hfr
    subst e1
    exact ⟨_, rfl, rfl, _, rfl, itF (by simp) ⟨_, rfl, k H6 c (s3.trans s6) fc⟩⟩
  · exact absurd hfr (r g)
end
end Gf
set_option Elab.async false
set_option linter.all false
set_option maxRecDepth 100000
set_option maxHeartbeats 4000000
namespace Gf
open PySem PySem.Spec PyProof.Rows L2
/-- all but what stands at st stays -/
structure Ex (st : Addr) (H H' : Hp) : Prop where
  k : ∀ b o, b ≠ st → H b = some o → H' b = some o
/-- the law's dict -/
def stD (r i c : Int) : HO := .dK [(.inr "rest", .int r), (.inr "next", .int i), (.inr "count", .int c)]
/-- the script and the law's dict -/
structure Ev (K : PySem.W.Frag) (H : Hp) (sc st : Addr) (ns : List Int) : Prop where
  s : SqL K H sc (ns.map V.int)
  d : ∃ r i c : Int, H st = some (stD r i c) ∧ 0 ≤ r ∧ 0 ≤ i ∧ i ≤ ns.length
/-- two ways come together at N -/
theorem joinN {N : L2.St → Hp → Prop} {G : Prop} (Pj : L2.St → Hp → Prop) (a : (∀ σ H, Pj σ H → N σ H) → G) (b : ∀ σ H, Pj σ H → N σ H) : G := a b
section
variable {P : Program} {w : World} {K : PySem.W.Frag} {mg : Str → Option Value} {base : Heap} {lt mt : Tok} {H H1 H2 H' : Hp} {sc st : Addr} {ns : List Int}
theorem Ex.of (h : Same H H') : Ex st H H' := ⟨fun b o _ e => h b o e⟩
theorem Ex.refl : Ex st H H := ⟨fun _ _ _ e => e⟩
theorem Ex.trans (a : Ex st H H1) (b : Ex st H1 H2) : Ex st H H2 := ⟨fun x o n e => b.k x o n (a.k x o n e)⟩
theorem Ex.over (a : Ex st H H1) {l : Addr} {o : HO} (h : H l = none) : Ex st H (upd H1 l o) := ⟨fun x u n e => by
  rw [upd_ne (ne_of_none e h)]
  exact a.k x u n e⟩
theorem Ex.new (a : Ex st H H1) {l : Addr} {o : HO} (h : H1 l = none) : Ex st H (upd H1 l o) := a.trans (Ex.of (same_upd h))
theorem Ex.here {o : HO} : Ex st H (upd H st o) := ⟨fun x u n e => by
  rw [upd_ne n]
  exact e⟩
theorem Ex.seqL {xs : List V} {a : Addr} {kv : List (Key × V)} (h : Ex st H H') (d : H st = some (.dK kv)) (q : SqL K H a xs) : SqL K H' a xs := by
  rcases q with (q | ⟨ob, q⟩) | q
  · exact .inl (.inl (h.k _ _ (ne_of q d (by intro z; cases z)) q))
  · exact .inl (.inr ⟨ob, h.k _ _ (ne_of q d (by intro z; cases z)) q⟩)
  · exact .inr q
theorem Ex.kp {kv : List (Key × V)} (h : Ex st H H') (d : H st = some (.dK kv)) : Kp K H H' := ⟨fun a xs q => by
  rcases q with (q | ⟨ob, q⟩) | q
  · exact .inl (.inl (h.k _ _ (ne_of q d (by intro z; cases z)) q))
  · exact .inl (.inr ⟨ob, h.k _ _ (ne_of q d (by intro z; cases z)) q⟩)
  · exact .inr q⟩
theorem Ev.same (h : Same H H') (e : Ev K H sc st ns) : Ev K H' sc st ns := by
  obtain ⟨r, i, c, h1, h2⟩ := e.d
  exact ⟨h.seq e.s, r, i, c, h _ _ h1, h2⟩
theorem Ev.seqL (e : Ev K H sc st ns) (h : Ex st H H') {a : Addr} {xs : List V} (q : SqL K H a xs) : SqL K H' a xs := by
  obtain ⟨r, i, c, h1, h2⟩ := e.d
  exact h.seqL h1 q
theorem Ev.kp (e : Ev K H sc st ns) (h : Ex st H H') : Kp K H H' := by
  obtain ⟨r, i, c, h1, h2⟩ := e.d
  exact h.kp h1
theorem sc_mixed : FnScope ["_law_cell", "_law_count", "_law_once"] ["_law_cell", "_law_count"] (defScope s_mixed) := ⟨rfl, rfl, rfl, by decide +kernel, rfl, by decide +kernel, by decide +kernel⟩
def sp_mixed : Sp := fun vs H Q _ => ∃ i j : Int, vs = [.int i, .int j] ∧ ∀ k : Int, Q (.int k) H
theorem ok_mixed (D : Df K mg "_law_mixed" s_mixed ["_law_cell", "_law_count"]) (B : Bi mg) : Pr P w K mg base CX0 1 "_law_mixed" ["_law_cell", "_law_count"] sp_mixed := by
  refine D.ok sc_mixed (fun vs H Q E h => ?_) (fun fa cdv A outer s H vs Q E hr h => ?_)
  · obtain ⟨i, j, rfl, _⟩ := h; rfl
  obtain ⟨i, j, rfl, k⟩ := h
  refine ⟨_, (pss_cons (ps_set (i := 2) sc_mixed.nd rfl (Or.inl rfl) (pe_op op_mod (pe_callTy call_int1 (by rfl) B.tint (by decide +kernel) (pa_cons (pe_op op_add (pe_op op_add (pe_op op_mul (pe_callTy call_int1 (by rfl) B.tint (by decide +kernel) (pa_cons (pv 0) pa_nil)) pe_int) (pe_op op_mul (pv 1) pe_int)) pe_int) pa_nil)) pe_int))
    (pss_one (ps_ret (pe_op op_mod (pe_callTy call_int1 (by rfl) B.tint (by decide +kernel) (pa_cons (pe_op op_add (pe_op op_add (pe_op op_mul (pv 2) pe_int) (pe_op op_mul (pe_op op_fdiv (pv 2) pe_int) pe_int)) (pe_op op_mul (pv 1) pe_int)) pa_nil)) pe_int)))), ?_⟩
  refine ⟨_, rfl, .inl ⟨_, rfl, _, _, rfl, rfl, .inr ⟨by decide, by decide⟩, _, rfl, _, _, rfl, rfl, .inr ⟨by decide, by decide⟩, _, _, rfl, rfl, _, _, rfl, rfl, .inl ⟨_, rfl, _, _, rfl, rfl, (show (0:Int) < 2147483647 by decide), ?_⟩⟩⟩
  refine ⟨_, rfl, _, _, rfl, rfl, .inr ⟨by decide, by decide⟩, _, rfl, _, _, rfl, rfl, ⟨by decide, by decide⟩, _, _, rfl, rfl, .inr ⟨by decide, by decide⟩, _, _, rfl, rfl, _, rfl, _, _, rfl, rfl, .inr ⟨by decide, by decide⟩, _, _, rfl, rfl, .inl ⟨_, rfl, _, _, rfl, rfl, (show (0:Int) < 2147483399 by decide), k _⟩⟩
theorem stD_rest {r i c : Int} (h : H st = some (stD r i c)) : DGet H st (.str "rest") (some (.int r)) := DGet.k (k := .inr "rest") h
theorem stD_next {r i c : Int} (h : H st = some (stD r i c)) : DGet H st (.str "next") (some (.int i)) := DGet.k (k := .inr "next") h
theorem stD_count {r i c : Int} (h : H st = some (stD r i c)) : DGet H st (.str "count") (some (.int c)) := DGet.k (k := .inr "count") h
theorem stP_rest {r i c x : Int} (h : H st = some (stD r i c)) : DPut H st (.str "rest") (.int x) (upd H st (stD x i c)) := DPut.k (k := .inr "rest") h (small1000 (show 3 ≤ 1000 by decide))
theorem stP_next {r i c x : Int} (h : H st = some (stD r i c)) : DPut H st (.str "next") (.int x) (upd H st (stD r x c)) := DPut.k (k := .inr "next") h (small1000 (show 3 ≤ 1000 by decide))
theorem stP_count {r i c x : Int} (h : H st = some (stD r i c)) : DPut H st (.str "count") (.int x) (upd H st (stD r i x)) := DPut.k (k := .inr "count") h (small1000 (show 3 ≤ 1000 by decide))
theorem sc_draw : FnScope ["_law_script", "_law_state", "_law_many", "_law_cell", "_law_digit"] ["_law_script", "_law_state", "_law_many"] (defScope s_draw) := ⟨rfl, rfl, rfl, by decide +kernel, rfl, by decide +kernel, by decide +kernel⟩
def sp_draw (K : PySem.W.Frag) : Sp := fun vs H Q _ => ∃ (sc st : Addr) (ns : List Int) (m : Int), vs = [.ref sc, .ref st, .int m] ∧ Ev K H sc st ns ∧ 0 < m ∧ m < 1073741824 ∧ ∀ (n : Int) H', 0 ≤ n → n < m → Ex st H H' → Ev K H' sc st ns → Q (.int n) H'
theorem ok_draw (D : Df K mg "_law_draw" s_draw ["_law_script", "_law_state", "_law_many"]) (B : Bi mg) (G_mixed : Pr P w K mg base CX0 1 "_law_mixed" ["_law_cell", "_law_count"] sp_mixed) : Pr P w K mg base CX0 2 "_law_draw" ["_law_script", "_law_state", "_law_many"] (sp_draw K) := by
  refine D.ok sc_draw (fun vs H Q E h => ?_) (fun fa cdv A outer s H vs Q E hr h => ?_)
  · obtain ⟨a, b, ns, m, rfl, _⟩ := h; rfl
  obtain ⟨sc, st, ns, m, rfl, he, h0, h1, k⟩ := h
  refine ⟨_, (pss_cons (ps_dput (hu_of hr) (pv 1) pe_str (pe_op op_add (pe_dget (hu_of hr) (pv 1) pe_str (fun _ _ => rfl)) pe_int) rfl)
    (pss_cons (ps_if (PW.pt (pw_and (pt_cmpR op_eq (pe_dget (hu_of hr) (pv 1) pe_str (fun _ _ => rfl)) pe_int (nomark _)) (pw_and1 (pt_cmpR op_lt (pe_dget (hu_of hr) (pv 1) pe_str (fun _ _ => rfl)) (pe_callB call_len_seq (by rfl) B.len PySem.boot_len (pa_cons (pv 0) pa_nil)) (nomark _))))) (pss_cons (ps_set (i := 3) sc_draw.nd rfl (Or.inl rfl) (pe_ix ix_list (pv 0) (pe_dget (hu_of hr) (pv 1) pe_str (fun _ _ => rfl)) (fun _ _ => rfl)))
    (pss_cons (ps_dput (hu_of hr) (pv 1) pe_str (pe_op op_add (pe_dget (hu_of hr) (pv 1) pe_str (fun _ _ => rfl)) pe_int) rfl)
    (pss_cons (ps_if (PW.pt (pw_or (pt_cmpR op_lt (pv 3) (pe_op op_pow pe_int pe_int) (nomark _)) (pw_or1 (pt_cmpR op_eq (pe_op op_mod (pe_callTy call_int1 (by rfl) B.tint (by decide +kernel) (pa_cons (pe_ix ix_list (pv 0) pe_int (fun _ _ => rfl)) pa_nil)) pe_int) pe_int (nomark _))))) (pss_one (ps_ret (pe_op op_mod (pe_callTy call_int1 (by rfl) B.tint (by decide +kernel) (pa_cons (pe_own G_mixed (hr.mono (by first | decide | omega)) (by rfl) pass0 (pa_cons (pv 3) (pa_cons (pe_dget (hu_of hr) (pv 1) pe_str (fun _ _ => rfl)) pa_nil))) pa_nil)) (pv 2)))) pss_nil)
    (pss_one (ps_dput (hu_of hr) (pv 1) pe_str (pe_op op_fdiv (pv 3) pe_int) rfl))))) pss_nil)
    (pss_cons (ps_if (pt_cmpR op_gt (pe_dget (hu_of hr) (pv 1) pe_str (fun _ _ => rfl)) pe_int (nomark _)) (pss_cons (ps_set (i := 4) sc_draw.nd rfl (Or.inl rfl) (pe_op op_mod (pe_callTy call_int1 (by rfl) B.tint (by decide +kernel) (pa_cons (pe_dget (hu_of hr) (pv 1) pe_str (fun _ _ => rfl)) pa_nil)) (pv 2)))
    (pss_cons (ps_dput (hu_of hr) (pv 1) pe_str (pe_op op_fdiv (pe_dget (hu_of hr) (pv 1) pe_str (fun _ _ => rfl)) (pv 2)) rfl)
    (pss_one (ps_ret (pv 4))))) pss_nil)
    (pss_cons (ps_set (i := 3) sc_draw.nd rfl (Or.inl rfl) pe_int)
    (pss_cons (ps_if (pt_cmpR op_gt (pe_callB call_len_seq (by rfl) B.len PySem.boot_len (pa_cons (pv 0) pa_nil)) pe_int (nomark _)) (pss_one (ps_set (i := 3) sc_draw.nd rfl (Or.inl rfl) (pe_ix ix_list (pv 0) (pe_op op_mod (pe_callTy call_int1 (by rfl) B.tint (by decide +kernel) (pa_cons (pe_dget (hu_of hr) (pv 1) pe_str (fun _ _ => rfl)) pa_nil)) (pe_callB call_len_seq (by rfl) B.len PySem.boot_len (pa_cons (pv 0) pa_nil))) (fun _ _ => rfl)))) pss_nil)
    (pss_one (ps_ret (pe_op op_mod (pe_callTy call_int1 (by rfl) B.tint (by decide +kernel) (pa_cons (pe_own G_mixed (hr.mono (by first | decide | omega)) (by rfl) pass0 (pa_cons (pv 3) (pa_cons (pe_dget (hu_of hr) (pv 1) pe_str (fun _ _ => rfl)) pa_nil))) pa_nil)) (pv 2))))))))), ?_⟩
  obtain ⟨hs, r, i, c, hd, hr0, hi0, hil⟩ := he
  have sq : ∀ {Hx : Hp}, Ex st H Hx → SqL K Hx sc (ns.map V.int) := fun {Hx} e => e.seqL hd hs
  have z2 : (0 : Int) < 2 := by decide
  refine ⟨_, rfl, st, _, rfl, stD_count hd, _, _, rfl, rfl, _, rfl, st, _, rfl, stP_count hd, ?_⟩
  have hd1 : upd H st (stD r i (c + 1)) st = some (stD r i (c + 1)) := upd_same
  have x1 : Ex st H (upd H st (stD r i (c + 1))) := Ex.here
  have fin : ∀ (z : Int) (Hx : Hp) (r2 i2 c2 : Int), Ex st H Hx → Hx st = some (stD r2 i2 c2) → 0 ≤ r2 → 0 ≤ i2 → i2 ≤ ns.length → Q (.int (z % m)) Hx := fun z Hx r2 i2 c2 ex hx g1 g2 g3 =>
    k _ _ (Int.emod_nonneg _ (by omega)) (Int.emod_lt_of_pos _ h0) ex ⟨sq ex, _, _, _, hx, g1, g2, g3⟩
  by_cases cr : r = 0
  · refine ⟨_, rfl, st, _, rfl, stD_rest hd1, rfl, _, rfl, itT (by rw [cr]; rfl) ?_⟩
    by_cases cn : i < ns.length
    · obtain ⟨j, rfl⟩ := Int.eq_ofNat_of_zero_le hi0
      have hj : j < ns.length := by omega
      have hat : (ns.map V.int)[j]? = some (.int (ns[j]'hj)) := by rw [List.getElem?_map, List.getElem?_eq_getElem hj]; rfl
      refine ⟨_, rfl, st, _, rfl, stD_next hd1, _, rfl, sc, _, rfl, .inl (sq x1), _, _, rfl, rfl, _, rfl, itT (decide_eq_true (by rw [List.length_map]; exact cn)) ?_⟩
      refine ⟨_, rfl, _, rfl, st, _, rfl, stD_next hd1, sc, _, _, _, rfl, rfl, sq x1, atI_nat hat, ?_⟩
      refine ⟨_, rfl, st, _, rfl, stD_next hd1, _, _, rfl, rfl, _, rfl, st, _, rfl, stP_next hd1, ?_⟩
      have hd2 : upd (upd H st (stD r j (c + 1))) st (stD r (j + 1) (c + 1)) st = some (stD r (j + 1) (c + 1)) := upd_same
      have x2 : Ex st H (upd (upd H st (stD r j (c + 1))) st (stD r (j + 1) (c + 1))) := x1.trans Ex.here
      generalize upd (upd H st (stD r j (c + 1))) st (stD r (j + 1) (c + 1)) = Hx at hd2 x2
      have h00 : (ns.map V.int)[0]? = some (.int (ns[0]'(by omega))) := by rw [List.getElem?_map, List.getElem?_eq_getElem (by omega)]; rfl
      -- the big ones
      by_cases cb : ns[j] < (10 : Int) ^ (18 : Int).toNat
      · refine ⟨_, rfl, _, _, rfl, rfl, ⟨by decide, by decide, by decide⟩, _, _, rfl, rfl, _, rfl, itT (decide_eq_true cb) ?_⟩
        refine ⟨_, rfl, _, rfl, st, _, rfl, stD_count hd2, _, _, rfl, fun z => .inl ⟨_, rfl, _, rfl, _, _, rfl, rfl, h0, ?_⟩⟩
        exact fin _ _ _ _ _ x2 hd2 (by omega) (by omega) (by omega)
      · refine ⟨_, rfl, _, _, rfl, rfl, ⟨by decide, by decide, by decide⟩, _, _, rfl, rfl, _, rfl, itF (decide_eq_false cb) ?_⟩
        refine ⟨_, rfl, sc, _, _, _, rfl, rfl, sq x2, atI_nat (j := 0) h00, .inl ⟨_, rfl, _, _, rfl, rfl, z2, rfl, _, rfl, ?_⟩⟩
        by_cases co : ns[0]'(by omega) % 2 = 1
        · refine itT (decide_eq_true (congrArg V.int co)) ?_
          refine ⟨_, rfl, _, rfl, st, _, rfl, stD_count hd2, _, _, rfl, fun z => .inl ⟨_, rfl, _, rfl, _, _, rfl, rfl, h0, ?_⟩⟩
          exact fin _ _ _ _ _ x2 hd2 (by omega) (by omega) (by omega)
        · refine itF (decide_eq_false (fun z => co (V.int.inj z))) ?_
          have e18 : (10 : Int) ^ (18 : Int).toNat = 1000000000000000000 := by decide
          rw [e18] at cb
          refine ⟨_, rfl, _, _, rfl, rfl, ⟨by decide, by decide⟩, _, rfl, st, _, rfl, stP_rest hd2, ?_⟩
          have hd3 : upd Hx st (stD (ns[j] / 2) (j + 1) (c + 1)) st = some (stD (ns[j] / 2) (j + 1) (c + 1)) := upd_same
          have x3 : Ex st H (upd Hx st (stD (ns[j] / 2) (j + 1) (c + 1))) := x2.trans Ex.here
          have pos : 0 < ns[j] / 2 := by omega
          refine ⟨_, rfl, st, _, rfl, stD_rest hd3, _, _, rfl, rfl, _, rfl, itT (decide_eq_true pos) ?_⟩
          refine ⟨_, rfl, st, _, rfl, stD_rest hd3, .inl ⟨_, rfl, _, rfl, _, _, rfl, rfl, h0, ?_⟩⟩
          refine ⟨_, rfl, st, _, rfl, stD_rest hd3, _, rfl, _, _, rfl, rfl, ⟨h0, h1⟩, _, rfl, st, _, rfl, stP_rest hd3, ?_⟩
          exact ⟨_, rfl, fin _ _ _ _ _ (x3.trans Ex.here) upd_same (Int.ediv_nonneg (by omega) (by omega)) (by omega) (by omega)⟩
    · refine ⟨_, rfl, st, _, rfl, stD_next hd1, _, rfl, sc, _, rfl, .inl (sq x1), _, _, rfl, rfl, _, rfl, itF (decide_eq_false (by rw [List.length_map]; exact cn)) ?_⟩
      refine ⟨_, rfl, st, _, rfl, stD_rest hd1, _, _, rfl, rfl, _, rfl, itF (decide_eq_false (by omega)) ?_⟩
      by_cases ce : 0 < ns.length
      · refine ⟨_, rfl, sc, _, rfl, .inl (sq x1), _, _, rfl, rfl, _, rfl, itT (decide_eq_true (by rw [List.length_map]; omega)) ?_⟩
        obtain ⟨q, hq⟩ := Int.eq_ofNat_of_zero_le (Int.emod_nonneg (c + 1) (b := (ns.length : Int)) (by omega))
        have hq2 : q < ns.length := by
          have := Int.emod_lt_of_pos (c + 1) (b := (ns.length : Int)) (by omega)
          omega
        have hat : (ns.map V.int)[q]? = some (.int (ns[q]'hq2)) := by rw [List.getElem?_map, List.getElem?_eq_getElem hq2]; rfl
        refine ⟨_, rfl, _, rfl, st, _, rfl, stD_count hd1, .inl ⟨_, rfl, _, rfl, sc, _, rfl, .inl (sq x1), _, _, rfl, rfl, (by rw [List.length_map]; omega), sc, _, _, _, rfl, rfl, sq x1, (by rw [List.length_map, hq]; exact atI_nat hat), ?_⟩⟩
        refine ⟨_, rfl, _, rfl, st, _, rfl, stD_count hd1, _, _, rfl, fun z => .inl ⟨_, rfl, _, rfl, _, _, rfl, rfl, h0, ?_⟩⟩
        exact fin _ _ _ _ _ x1 hd1 (by omega) (by omega) (by omega)
      · refine ⟨_, rfl, sc, _, rfl, .inl (sq x1), _, _, rfl, rfl, _, rfl, itF (decide_eq_false (by rw [List.length_map]; omega)) ?_⟩
        refine ⟨_, rfl, _, rfl, st, _, rfl, stD_count hd1, _, _, rfl, fun z => .inl ⟨_, rfl, _, rfl, _, _, rfl, rfl, h0, ?_⟩⟩
        exact fin _ _ _ _ _ x1 hd1 (by omega) (by omega) (by omega)
  · refine ⟨_, rfl, st, _, rfl, stD_rest hd1, rfl, _, rfl, itF (decide_eq_false (fun z => cr (V.int.inj z))) ?_⟩
    refine ⟨_, rfl, st, _, rfl, stD_rest hd1, _, _, rfl, rfl, _, rfl, itT (decide_eq_true (by omega)) ?_⟩
    refine ⟨_, rfl, st, _, rfl, stD_rest hd1, .inl ⟨_, rfl, _, rfl, _, _, rfl, rfl, h0, ?_⟩⟩
    refine ⟨_, rfl, st, _, rfl, stD_rest hd1, _, rfl, _, _, rfl, rfl, ⟨h0, h1⟩, _, rfl, st, _, rfl, stP_rest hd1, ?_⟩
    exact ⟨_, rfl, fin _ _ _ _ _ (x1.trans Ex.here) upd_same (Int.ediv_nonneg (by omega) (by omega)) (by omega) (by omega)⟩
end
end Gf
set_option Elab.async false
set_option linter.all false
set_option maxRecDepth 100000
set_option maxHeartbeats 4000000
namespace Gf
open PySem PySem.Spec PyProof.Rows L2
section
variable {P : Program} {w : World} {K : PySem.W.Frag} {mg : Str → Option Value} {base : Heap} {lt mt : Tok} {H H1 H2 H' : Hp} {sc st : Addr} {ns : List Int}
theorem sc_mark : FnScope ["_law_script", "_law_state"] ["_law_script", "_law_state"] (defScope s_mark) := ⟨rfl, rfl, rfl, by decide +kernel, rfl, by decide +kernel, by decide +kernel⟩
def sp_lmark (K : PySem.W.Frag) : Sp := fun vs H Q _ => ∃ (sc st : Addr) (ns : List Int), vs = [.ref sc, .ref st] ∧ Ev K H sc st ns ∧ ∀ (n : Int) H', 0 < n → Ex st H H' → Ev K H' sc st ns → Q (.int n) H'
theorem ok_lmark (D : Df K mg "_law_mark" s_mark ["_law_script", "_law_state"]) (G_draw : Pr P w K mg base CX0 2 "_law_draw" ["_law_script", "_law_state", "_law_many"] (sp_draw K)) : Pr P w K mg base CX0 3 "_law_mark" ["_law_script", "_law_state"] (sp_lmark K) := by
  refine D.ok sc_mark (fun vs H Q E h => ?_) (fun fa cdv A outer s H vs Q E hr h => ?_)
  · obtain ⟨a, b, ns, rfl, _⟩ := h; rfl
  obtain ⟨sc, st, ns, rfl, he, k⟩ := h
  refine ⟨_, (pss_cons (ps_if (pt_cmpR op_eq (pe_own G_draw (hr.mono (by first | decide | omega)) (by rfl) pass0 (pa_cons (pv 0) (pa_cons (pv 1) (pa_cons pe_int pa_nil)))) pe_int (nomark _)) (pss_one (ps_ret (pe_op op_add pe_int (pe_own G_draw (hr.mono (by first | decide | omega)) (by rfl) pass0 (pa_cons (pv 0) (pa_cons (pv 1) (pa_cons pe_int pa_nil))))))) pss_nil)
    (pss_one (ps_ret (pe_op op_add pe_int (pe_own G_draw (hr.mono (by first | decide | omega)) (by rfl) pass0 (pa_cons (pv 0) (pa_cons (pv 1) (pa_cons pe_int pa_nil)))))))), ?_⟩
  refine ⟨_, rfl, _, rfl, sc, st, ns, 4, rfl, he, by decide, by decide, fun n H1 _ _ x1 e1 => ⟨rfl, _, rfl, ?_⟩⟩
  by_cases c : n = 1
  · refine itT (decide_eq_true (congrArg V.int c)) ?_
    exact ⟨_, rfl, _, rfl, sc, st, ns, _, rfl, e1, by decide, by decide, fun n H2 _ _ x2 e2 => ⟨_, _, rfl, rfl, k _ _ (by omega) (x1.trans x2) e2⟩⟩
  · refine itF (decide_eq_false fun z => c (V.int.inj z)) ?_
    exact ⟨_, rfl, _, rfl, sc, st, ns, _, rfl, e1, by decide, by decide, fun n H2 _ _ x2 e2 => ⟨_, _, rfl, rfl, k _ _ (by omega) (x1.trans x2) e2⟩⟩
theorem sc_word : FnScope ["_law_script", "_law_state", "_law_letters", "_law_size", "_law_text", "_law_k"] ["_law_script", "_law_state"] (defScope s_word) := ⟨rfl, rfl, rfl, by decide +kernel, rfl, by decide +kernel, by decide +kernel⟩
def sp_lword (K : PySem.W.Frag) : Sp := fun vs H Q _ => ∃ (sc st : Addr) (ns : List Int), vs = [.ref sc, .ref st] ∧ Ev K H sc st ns ∧ ∀ (u : Str) H', okW u → Ex st H H' → Ev K H' sc st ns → Q (.str u) H'
theorem ok_lword (D : Df K mg "_law_word" s_word ["_law_script", "_law_state"]) (B : Bi mg) (G_draw : Pr P w K mg base CX0 2 "_law_draw" ["_law_script", "_law_state", "_law_many"] (sp_draw K)) : Pr P w K mg base CX0 3 "_law_word" ["_law_script", "_law_state"] (sp_lword K) := by
  refine D.ok sc_word (fun vs H Q E h => ?_) (fun fa cdv A outer s H vs Q E hr h => ?_)
  · obtain ⟨a, b, ns, rfl, _⟩ := h; rfl
  obtain ⟨sc, st, ns, rfl, he, k⟩ := h
  refine ⟨_, (pss_cons (ps_set (i := 2) sc_word.nd rfl (Or.inl rfl) pe_str)
    (pss_cons (ps_set (i := 3) sc_word.nd rfl (Or.inl rfl) (pe_op op_add pe_int (pe_own G_draw (hr.mono (by first | decide | omega)) (by rfl) pass0 (pa_cons (pv 0) (pa_cons (pv 1) (pa_cons pe_int pa_nil))))))
    (pss_cons (ps_if (pt_cmpR op_eq (pe_own G_draw (hr.mono (by first | decide | omega)) (by rfl) pass0 (pa_cons (pv 0) (pa_cons (pv 1) (pa_cons pe_int pa_nil)))) pe_int (nomark _)) (pss_one (ps_set (i := 3) sc_word.nd rfl (Or.inl rfl) (pe_op op_add pe_int (pe_own G_draw (hr.mono (by first | decide | omega)) (by rfl) pass0 (pa_cons (pv 0) (pa_cons (pv 1) (pa_cons pe_int pa_nil))))))) pss_nil)
    (pss_cons (ps_set (i := 4) sc_word.nd rfl (Or.inl rfl) pe_str)
    (pss_cons (ps_for PassesOwn.never rfl (pi_range1 (by rfl) B.range (pa_cons (pv 3) pa_nil)) (pg_name (i := 5) sc_word.nd rfl (Or.inl rfl)) (pss_one (ps_set (i := 4) sc_word.nd rfl (Or.inl rfl) (pe_op op_add_str (pv 4) (pe_ix ix_str (pv 2) (pe_own G_draw (hr.mono (by first | decide | omega)) (by rfl) pass0 (pa_cons (pv 0) (pa_cons (pv 1) (pa_cons (pe_ix ix_list (pe_lst (pa_cons pe_int (pa_cons pe_int pa_nil))) (pe_own G_draw (hr.mono (by first | decide | omega)) (by rfl) pass0 (pa_cons (pv 0) (pa_cons (pv 1) (pa_cons pe_int pa_nil)))) (fun _ _ => rfl)) pa_nil)))) (fun _ _ => rfl))))))
    (pss_one (ps_ret (pv 4)))))))), ?_⟩
  refine ⟨_, rfl, _, rfl, sc, st, ns, 2, rfl, he, by decide, by decide, fun n1 H1 a1 b1 x1 e1 => ⟨_, _, rfl, rfl, ?_⟩⟩
  refine ⟨_, rfl, _, rfl, sc, st, ns, 6, rfl, e1, by decide, by decide, fun n2 H2 _ _ x2 e2 => ⟨rfl, _, rfl, ?_⟩⟩
  have xA := x1.trans x2
  refine joinN (N := ?N) (fun σ H' => ∃ n : Int, σ = [some (.ref sc), some (.ref st), some (.str lettersS), some (.int n), none, none] ∧ 1 ≤ n ∧ n ≤ 8 ∧ Ex st H H' ∧ Ev K H' sc st ns) (fun J => ?a) (fun σ H3 z => ?b)
  case a =>
    by_cases c : ¬ n2 = 1
    · refine itF (decide_eq_false fun z => c (V.int.inj z)) ?_
      exact J _ H2 ⟨1 + n1, rfl, by omega, by omega, xA, e2⟩
    · refine itT (decide_eq_true (congrArg V.int (Decidable.not_not.mp c))) ?_
      exact ⟨_, rfl, _, rfl, sc, st, ns, 8, rfl, e2, by decide, by decide, fun n3 H3 a3 b3 x3 e3 => ⟨_, _, rfl, rfl, J _ H3 ⟨1 + n3, rfl, by omega, by omega, xA.trans x3, e3⟩⟩⟩
  case b =>
    obtain ⟨n, rfl, hn1, hn8, x3, e3⟩ := z
    refine ⟨_, rfl, n, rfl, by omega, by omega, for_range (fun i σ H' => ∃ (t : Str) (s5 : Option V), σ = [some (.ref sc), some (.ref st), some (.str lettersS), some (.int n), some (.str t), s5] ∧ t.cps.toList.length = i ∧ (∀ c ∈ t.cps.toList, c ∈ lettersS.cps.toList) ∧ Ex st H H' ∧ Ev K H' sc st ns) ⟨"", none, rfl, rfl, (by intro c hc; cases hc), x3, e3⟩ (fun i σ H' hi z => ?_) (fun σ H' z => ?_)⟩
    · obtain ⟨t, s5, rfl, hl, hc, x4, e4⟩ := z
      refine ⟨_, rfl, _, rfl, _, rfl, _, rfl, Nat.le_of_lt (small1000 (show 2 ≤ 1000 by decide)), fun l nl => ?_⟩
      have e5 := e4.same (same_upd (o := .lst [.int 3, .int 26]) nl)
      have x5 := x4.new (o := .lst [.int 3, .int 26]) nl
      refine ⟨_, rfl, _, rfl, sc, st, ns, 2, rfl, e5, by decide, by decide, fun n6 H6 a6 b6 x6 e6 => ?_⟩
      obtain ⟨j, rfl⟩ := Int.eq_ofNat_of_zero_le a6
      have hx : ∃ q : Int, ([V.int 3, V.int 26] : List V)[j]? = some (.int q) ∧ 0 < q ∧ q ≤ 26 := by
        rcases Nat.lt_or_ge j 1 with z | z
        · obtain rfl : j = 0 := by omega
          exact ⟨3, rfl, by decide, by decide⟩
        · obtain rfl : j = 1 := by omega
          exact ⟨26, rfl, by decide, by decide⟩
      obtain ⟨q, q1, q2, q3⟩ := hx
      refine ⟨l, _, _, _, rfl, rfl, e5.seqL x6 (.inl (.inl upd_same)), atI_nat q1, sc, st, ns, q, rfl, e6, q2, by omega, fun n7 H7 a7 b7 x7 e7 => ?_⟩
      obtain ⟨j2, rfl⟩ := Int.eq_ofNat_of_zero_le a7
      have hj2 : j2 < lettersS.cps.toList.length := by
        have : lettersS.cps.toList.length = 26 := by decide +kernel
        omega
      refine ⟨_, _, lettersS.cps.toList[j2]'hj2, rfl, rfl, Nat.le_of_lt (small1000 (show 26 ≤ 1000 by decide)), atI_nat (List.getElem?_eq_getElem hj2), _, _, rfl, rfl, Nat.le_of_lt (small1000 (?_)), ?_⟩
      · have h1 := str_len t
        show t.length + 1 ≤ 1000
        omega
      · refine ⟨_, _, rfl, ?_, ?_, (x5.trans x6).trans x7, e7⟩
        · show (t.cps ++ #[_]).toList.length = i + 1
          rw [Array.toList_append, List.length_append, hl]
          rfl
        · intro c h
          have h' : c ∈ (t.cps ++ #[lettersS.cps.toList[j2]'hj2]).toList := h
          rw [Array.toList_append, List.mem_append] at h'
          rcases h' with h' | h'
          · exact hc c h'
          · rw [List.mem_singleton.mp h']
            exact List.getElem_mem _
    · obtain ⟨t, s5, rfl, hl, hc, x4, e4⟩ := z
      have h1 := str_len t
      exact ⟨_, rfl, k t H' ⟨by omega, by omega, hc⟩ x4 e4⟩
end
end Gf
set_option Elab.async false
set_option linter.all false
set_option maxRecDepth 100000
set_option maxHeartbeats 4000000
namespace Gf
open PySem PySem.Spec PyProof.Rows L2
theorem inV_int (m : Int) : ∀ ms : List Int, inV (.int m) (ms.map V.int) = decide (m ∈ ms)
  | [] => rfl
  | x :: ms => by
    have ih := inV_int m ms
    unfold inV at ih ⊢
    rw [List.map_cons, List.any_cons, ih]
    show ((x == m) || decide (m ∈ ms)) = _
    by_cases c : x = m
    · rw [c, beq_self_eq_true, Bool.true_or, decide_eq_true (List.mem_cons_self ..)]
    · rw [show (x == m) = false from beq_eq_false_iff_ne.mpr c, Bool.false_or]
      exact decide_eq_decide.mpr ⟨fun h => List.mem_cons_of_mem _ h, fun h => (List.mem_cons.mp h).resolve_left fun z => c z.symm⟩
theorem flat_ints (ms : List Int) : (ms.map V.int).all flatV = true := by
  rw [List.all_map]
  exact List.all_eq_true.mpr fun x _ => rfl
theorem pigeon : ∀ (n : Nat) (ms : List Int), (∀ k : Int, 1 ≤ k → k ≤ n → k ∈ ms) → n ≤ ms.length
  | 0, _, _ => Nat.zero_le _
  | n + 1, ms, h => by
    have h1 : ((n + 1 : Nat) : Int) ∈ ms := h _ (by omega) (by omega)
    have h2 := pigeon n (ms.erase ((n + 1 : Nat) : Int)) fun k a b => (List.mem_erase_of_ne (by omega)).mpr (h k a (by omega))
    rw [List.length_erase_of_mem h1] at h2
    have h3 := List.length_pos_of_mem h1
    omega
/-- the law's list of rows -/
def RoL (K : PySem.W.Frag) (H : Hp) (fl : List RS) (a : Addr) : Prop := ∃ vs, SqL K H a vs ∧ RoA K H fl vs
section
variable {P : Program} {w : World} {K : PySem.W.Frag} {mg : Str → Option Value} {base : Heap} {lt mt : Tok} {H H1 H2 H' : Hp} {sc st : Addr} {ns : List Int}
theorem RoA.at : ∀ {fl : List RS} {vs : List V} {i : Nat} {y : V}, RoA K H fl vs → vs[i]? = some y → ∃ x t, fl[i]? = some x ∧ y = .ref t ∧ SqT K H t [.int x.m, .str x.w, .int x.p]
  | [], _, _, _, h, e => by rw [show _ = [] from h] at e; simp at e
  | x :: fl, _, 0, y, ⟨t, rest, e1, h1, h2⟩, e => by
    rw [e1] at e
    obtain rfl := Option.some.inj e
    exact ⟨x, t, rfl, rfl, h1⟩
  | x :: fl, _, i + 1, y, ⟨t, rest, e1, h1, h2⟩, e => by
    rw [e1] at e
    obtain ⟨x', t', q1, q2, q3⟩ := RoA.at (i := i) h2 e
    exact ⟨x', t', q1, q2, q3⟩
theorem RoA.append : ∀ {l l' : List RS} {vs vs' : List V}, RoA K H l vs → RoA K H l' vs' → RoA K H (l ++ l') (vs ++ vs')
  | [], _, _, _, q, q' => by rw [show _ = [] from q]; exact q'
  | _ :: _, _, _, _, ⟨t, rest, e, h1, h3⟩, q' => by
    rw [e]
    exact ⟨t, _, rfl, h1, RoA.append h3 q'⟩
theorem RoA.take : ∀ {l : List RS} {vs : List V} (n : Nat), RoA K H l vs → RoA K H (l.take n) (vs.take n)
  | [], _, n, q => by rw [show _ = [] from q, List.take_nil, List.take_nil]; rfl
  | _ :: _, _, 0, _ => rfl
  | _ :: _, _, n + 1, ⟨t, rest, e, h1, h3⟩ => by
    rw [e]
    exact ⟨t, _, rfl, h1, RoA.take n h3⟩
theorem RoA.drop : ∀ {l : List RS} {vs : List V} (n : Nat), RoA K H l vs → RoA K H (l.drop n) (vs.drop n)
  | [], _, n, q => by rw [show _ = [] from q, List.drop_nil, List.drop_nil]; rfl
  | _ :: _, _, 0, q => q
  | _ :: _, _, n + 1, ⟨t, rest, e, h1, h3⟩ => by
    rw [e]
    exact RoA.drop n h3
theorem RoL.same (h : Same H H') {fl : List RS} {a : Addr} : RoL K H fl a → RoL K H' fl a := fun ⟨vs, h1, h2⟩ => ⟨vs, h.seq h1, h2.mono h.kp⟩
theorem Ev.ro (e : Ev K H sc st ns) (h : Ex st H H') {fl : List RS} {a : Addr} : RoL K H fl a → RoL K H' fl a := fun ⟨vs, h1, h2⟩ => ⟨vs, e.seqL h h1, h2.mono (e.kp h)⟩
theorem sc_fresh : FnScope ["_law_script", "_law_state", "_law_taken", "_law_mark_here", "_law_k"] ["_law_script", "_law_state", "_law_taken"] (defScope s_fresh) := ⟨rfl, rfl, rfl, by decide +kernel, rfl, by decide +kernel, by decide +kernel⟩
def sp_fresh (K : PySem.W.Frag) : Sp := fun vs H Q _ => ∃ (sc st l : Addr) (ns ms : List Int), vs = [.ref sc, .ref st, .ref l] ∧ Ev K H sc st ns ∧ SqL K H l (ms.map V.int) ∧ ms.length ≤ 1000 ∧ ∀ (n : Int) H', 0 < n → n ∉ ms → Ex st H H' → Ev K H' sc st ns → Q (.int n) H'
theorem ok_fresh (D : Df K mg "_law_fresh" s_fresh ["_law_script", "_law_state", "_law_taken"]) (B : Bi mg) (G_mark : Pr P w K mg base CX0 3 "_law_mark" ["_law_script", "_law_state"] (sp_lmark K)) : Pr P w K mg base CX0 4 "_law_fresh" ["_law_script", "_law_state", "_law_taken"] (sp_fresh K) := by
  refine D.ok sc_fresh (fun vs H Q E h => ?_) (fun fa cdv A outer s H vs Q E hr h => ?_)
  · obtain ⟨a, b, l, ns, ms, rfl, _⟩ := h; rfl
  obtain ⟨sc, st, l, ns, ms, rfl, he, hl, hz, k⟩ := h
  refine ⟨_, (pss_cons (ps_set (i := 3) sc_fresh.nd rfl (Or.inl rfl) (pe_own G_mark (hr.mono (by first | decide | omega)) (by rfl) pass0 (pa_cons (pv 0) (pa_cons (pv 1) pa_nil))))
    (pss_cons (ps_for PassesOwn.never rfl (pi_range2 (by rfl) B.range (pa_cons pe_int (pa_cons (pe_op op_add (pe_callB call_len_seq (by rfl) B.len PySem.boot_len (pa_cons (pv 2) pa_nil)) pe_int) pa_nil))) (pg_name (i := 4) sc_fresh.nd rfl (Or.inl rfl)) (pss_one (ps_if (pt_cmpR op_in_seq (pv 3) (pv 2) (by rfl)) (pss_one (ps_set (i := 3) sc_fresh.nd rfl (Or.inl rfl) (pv 4))) pss_nil)))
    (pss_one (ps_ret (pv 3))))), ?_⟩
  refine ⟨_, rfl, _, rfl, sc, st, ns, rfl, he, fun n H1 hn x1 e1 => ?_⟩
  have hl1 := he.seqL x1 hl
  refine ⟨_, rfl, l, _, rfl, .inl hl1, _, _, rfl, rfl, _, _, rfl, ⟨by decide, by decide, by rw [List.length_map]; omega, by rw [List.length_map]; omega⟩, ?_⟩
  refine for_range (fun i σ H' => ∃ (m : Int) (s4 : Option V), σ = [some (.ref sc), some (.ref st), some (.ref l), some (.int m), s4] ∧ 0 < m ∧ (m ∉ ms ∨ ∀ k : Int, 1 ≤ k → k ≤ i → k ∈ ms) ∧ H' = H1) ⟨n, none, rfl, hn, .inr fun k a b => by omega, rfl⟩ (fun i σ H' hi z => ?_) (fun σ H' z => ?_)
  · obtain ⟨m, s4, rfl, hm, hd, rfl⟩ := z
    refine ⟨_, rfl, _, rfl, l, _, rfl, .inl hl1, rfl, flat_ints ms, _, rfl, ?_⟩
    rw [inV_int]
    by_cases c : m ∈ ms
    · refine itT (decide_eq_true c) ?_
      refine ⟨_, rfl, _, _, rfl, by omega, ?_, rfl⟩
      by_cases c2 : 1 + (i : Int) ∈ ms
      · refine .inr fun k a b => ?_
        rcases hd with hd | hd
        · exact absurd c hd
        · rcases Int.lt_or_le (i : Int) k with z | z
          · rw [show k = 1 + (i : Int) by omega]; exact c2
          · exact hd k a z
      · exact .inl c2
    · exact itF (decide_eq_false c) ⟨m, _, rfl, hm, .inl c, rfl⟩
  · obtain ⟨m, s4, rfl, hm, hd, rfl⟩ := z
    rcases hd with hd | hd
    · exact ⟨_, rfl, k m _ hm hd x1 e1⟩
    · rw [List.length_map] at hd
      have := pigeon (ms.length + 1) ms fun k a b => hd k a (by omega)
      omega
end
end Gf
set_option Elab.async false
set_option linter.all false
set_option maxRecDepth 100000
set_option maxHeartbeats 4000000
namespace Gf
open PySem PySem.Spec PyProof.Rows L2
theorem parL_snoc {pre : List RS} {x : RS} {q : Int} (h : x.m = q → q ∉ pre.map (fun y : RS => y.m)) : parL (pre ++ [x]) q = if x.m = q then x.p else parL pre q := by
  unfold parL
  rw [List.find?_append]
  by_cases c : x.m = q
  · have h1 : pre.find? (fun y : RS => decide (y.m = q)) = none := List.find?_eq_none.mpr fun y hy => by
      simp only [decide_eq_true_eq]
      exact fun z => h c (List.mem_map.mpr ⟨y, hy, z⟩)
    rw [h1, if_pos c, List.find?_cons, decide_eq_true c]
    rfl
  · have h2 : [x].find? (fun y : RS => decide (y.m = q)) = none := List.find?_eq_none.mpr fun y hy => by
      rw [List.mem_singleton.mp hy]
      simp only [decide_eq_true_eq]
      exact c
    rw [if_neg c, h2, Option.or_none]
theorem nodup_take {fl : List RS} (hn : (fl.map (fun y : RS => y.m)).Nodup) {i : Nat} {x : RS} (h : fl[i]? = some x) : x.m ∉ (fl.take i).map (fun y : RS => y.m) := by
  obtain ⟨hi, e⟩ := List.getElem?_eq_some_iff.mp h
  have h1 : fl = fl.take i ++ x :: fl.drop (i + 1) := by
    rw [← e, ← List.drop_eq_getElem_cons hi, List.take_append_drop]
  rw [h1, List.map_append] at hn
  have h2 := (List.nodup_append.mp hn).2.2
  exact fun z => h2 _ z x.m (List.mem_cons_self ..) rfl
theorem take_snoc {fl : List RS} {i : Nat} {x : RS} (h : fl[i]? = some x) : fl.take (i + 1) = fl.take i ++ [x] := by
  rw [List.take_succ, h]
  rfl
section
variable {P : Program} {w : World} {K : PySem.W.Frag} {mg : Str → Option Value} {base : Heap} {lt mt : Tok} {H H1 H2 H' : Hp} {sc st : Addr} {ns : List Int}
theorem sc_level : FnScope ["_law_flat_here", "_law_mark_here", "_law_level_here", "_law_k", "_law_parent", "_law_row"] ["_law_flat_here", "_law_mark_here"] (defScope s_level) := ⟨rfl, rfl, rfl, by decide +kernel, rfl, by decide +kernel, by decide +kernel⟩
def sp_level (K : PySem.W.Frag) : Sp := fun vs H Q _ => ∃ (a : Addr) (fl : List RS) (m : Int), vs = [.ref a, .int m] ∧ RoL K H fl a ∧ fl.length ≤ 1000 ∧ ∀ i : Int, Q (.int i) H
theorem ok_level (D : Df K mg "_law_level" s_level ["_law_flat_here", "_law_mark_here"]) (B : Bi mg) : Pr P w K mg base CX0 1 "_law_level" ["_law_flat_here", "_law_mark_here"] (sp_level K) := by
  refine D.ok sc_level (fun vs H Q E h => ?_) (fun fa cdv A outer s H vs Q E hr h => ?_)
  · obtain ⟨a, fl, m, rfl, _⟩ := h; rfl
  obtain ⟨a, fl, m, rfl, ⟨vs, ha, hv⟩, hl, k⟩ := h
  have hvl := hv.len
  refine ⟨_, (pss_cons (ps_set (i := 2) sc_level.nd rfl (Or.inl rfl) pe_int)
    (pss_cons (ps_for PassesOwn.never rfl (pi_range1 (by rfl) B.range (pa_cons (pe_op op_add (pe_callB call_len_seq (by rfl) B.len PySem.boot_len (pa_cons (pv 0) pa_nil)) pe_int) pa_nil)) (pg_name (i := 3) sc_level.nd rfl (Or.inl rfl)) (pss_cons (ps_if (pt_cmpR op_eq (pv 1) pe_int (nomark _)) (pss_one (ps_ret (pv 2))) pss_nil)
    (pss_cons (ps_set (i := 4) sc_level.nd rfl (Or.inl rfl) pe_int)
    (pss_cons (ps_for PassesOwn.never rfl (pi_list (pv 0)) (pg_name (i := 5) sc_level.nd rfl (Or.inl rfl)) (pss_one (ps_if (pt_cmpR op_eq (pe_ix ix_tup (pv 5) pe_int (fun _ _ => rfl)) (pv 1) (nomark _)) (pss_one (ps_set (i := 4) sc_level.nd rfl (Or.inl rfl) (pe_ix ix_tup (pv 5) pe_int (fun _ _ => rfl)))) pss_nil)))
    (pss_cons (ps_set (i := 2) sc_level.nd rfl (Or.inl rfl) (pe_op op_add (pv 2) pe_int))
    (pss_one (ps_set (i := 1) sc_level.nd rfl (Or.inl rfl) (pv 4))))))))
    (pss_one (ps_ret (pv 2))))), ?_⟩
  refine ⟨_, rfl, a, _, rfl, .inl ha, _, _, rfl, rfl, _, rfl, by omega, by omega, for_range (fun i σ H' => ∃ (m lv : Int) (s3 s4 s5 : Option V), σ = [some (.ref a), some (.int m), some (.int lv), s3, s4, s5] ∧ H' = H) ⟨m, 0, none, none, none, rfl, rfl⟩ (fun i σ H' hi z => ?_) (fun σ H' z => ?_)⟩
  · obtain ⟨m, lv, s3, s4, s5, rfl, rfl⟩ := z
    refine ⟨_, rfl, rfl, _, rfl, ?_⟩
    by_cases c : m = 0
    · exact itT (decide_eq_true (congrArg V.int c)) ⟨_, rfl, k lv⟩
    refine itF (decide_eq_false fun z => c (V.int.inj z)) ?_
    refine ⟨_, rfl, a, rfl, ⟨_, ha⟩, for_list (K := K) (a := a) (xs := vs) (fun i' σ H'' => ∃ (v : Int) (s5 : Option V), σ = [some (.ref a), some (.int m), some (.int lv), some (.int (0 + (i : Nat))), some (.int v), s5] ∧ H'' = H') ⟨0, s5, rfl, rfl⟩ (fun i σ H' _ z => ?_) (fun i' y σ H' hy z => ?_) (fun σ H' z => ?_)⟩
    · obtain ⟨_, _, _, rfl⟩ := z; exact ha
    · obtain ⟨v, s5, rfl, rfl⟩ := z
      obtain ⟨x, t, hx, rfl, ht⟩ := hv.at hy
      refine ⟨_, rfl, t, _, 0, _, rfl, rfl, ht, atI_nat (j := 0) rfl, _, rfl, rfl, _, rfl, ite2 (fun c => ?_) (fun c => ?_)⟩
      · exact ⟨_, rfl, t, _, 2, _, rfl, rfl, ht, atI_nat (j := 2) rfl, ⟨_, _, rfl, rfl⟩⟩
      · exact ⟨_, _, rfl, rfl⟩
    · obtain ⟨v, s5, rfl, rfl⟩ := z
      refine ⟨_, rfl, _, _, rfl, rfl, ?_⟩
      exact ⟨_, rfl, ⟨_, _, _, _, _, rfl, rfl⟩⟩
  · obtain ⟨m, lv, s3, s4, s5, rfl, rfl⟩ := z
    exact ⟨_, rfl, k lv⟩
theorem sc_below : FnScope ["_law_flat_here", "_law_mark_here", "_law_m", "_law_k", "_law_parent", "_law_row"] ["_law_flat_here", "_law_mark_here", "_law_m"] (defScope s_below) := ⟨rfl, rfl, rfl, by decide +kernel, rfl, by decide +kernel, by decide +kernel⟩
def sp_lbelow (K : PySem.W.Frag) : Sp := fun vs H Q _ => ∃ (a : Addr) (fl : List RS) (x m : Int) (l : List Int), vs = [.ref a, .int x, .int m] ∧ RoL K H fl a ∧ fl.length ≤ 1000 ∧ (fl.map (fun y : RS => y.m)).Nodup ∧ m ≠ 0 ∧ Chn (parL fl) x l ∧ l.length ≤ fl.length ∧ Q (.bl (decide (m ∈ l))) H
theorem ok_lbelow (D : Df K mg "_law_below" s_below ["_law_flat_here", "_law_mark_here", "_law_m"]) (B : Bi mg) : Pr P w K mg base CX0 1 "_law_below" ["_law_flat_here", "_law_mark_here", "_law_m"] (sp_lbelow K) := by
  refine D.ok sc_below (fun vs H Q E h => ?_) (fun fa cdv A outer s H vs Q E hr h => ?_)
  · obtain ⟨a, fl, x, m, l, rfl, _⟩ := h; rfl
  obtain ⟨a, fl, x, m, l, rfl, ⟨vs, ha, hv⟩, hl, hn, hm, hc, hcl, k⟩ := h
  have hvl := hv.len
  refine ⟨_, (pss_cons (ps_for PassesOwn.never rfl (pi_range1 (by rfl) B.range (pa_cons (pe_op op_add (pe_callB call_len_seq (by rfl) B.len PySem.boot_len (pa_cons (pv 0) pa_nil)) pe_int) pa_nil)) (pg_name (i := 3) sc_below.nd rfl (Or.inl rfl)) (pss_cons (ps_if (PW.pt (pw_or (pt_cmpR op_eq (pv 1) (pv 2) (nomark _)) (pw_or1 (pt_cmpR op_eq (pv 1) pe_int (nomark _))))) (pss_one (ps_ret (pe_cmpR op_eq (pv 1) (pv 2) (nomark _)))) pss_nil)
    (pss_cons (ps_set (i := 4) sc_below.nd rfl (Or.inl rfl) pe_int)
    (pss_cons (ps_for PassesOwn.never rfl (pi_list (pv 0)) (pg_name (i := 5) sc_below.nd rfl (Or.inl rfl)) (pss_one (ps_if (pt_cmpR op_eq (pe_ix ix_tup (pv 5) pe_int (fun _ _ => rfl)) (pv 1) (nomark _)) (pss_one (ps_set (i := 4) sc_below.nd rfl (Or.inl rfl) (pe_ix ix_tup (pv 5) pe_int (fun _ _ => rfl)))) pss_nil)))
    (pss_one (ps_set (i := 1) sc_below.nd rfl (Or.inl rfl) (pv 4)))))))
    (pss_one (ps_ret pe_bl))), ?_⟩
  refine ⟨_, rfl, a, _, rfl, .inl ha, _, _, rfl, rfl, _, rfl, by omega, by omega, for_range (fun i σ H' => ∃ (x : Int) (l' : List Int) (s3 s4 s5 : Option V), σ = [some (.ref a), some (.int x), some (.int m), s3, s4, s5] ∧ H' = H ∧ Chn (parL fl) x l' ∧ decide (m ∈ l) = decide (m ∈ l') ∧ l'.length + i ≤ fl.length) ⟨x, l, none, none, none, rfl, rfl, hc, rfl, hcl⟩ (fun i σ H' hi z => ?_) (fun σ H' z => ?_)⟩
  · obtain ⟨x, l', s3, s4, s5, rfl, rfl, hc, hd, hll⟩ := z
    refine ⟨_, rfl, _, rfl, rfl, _, rfl, ?_⟩
    by_cases c1 : x = m
    · refine itT (decide_eq_true (congrArg V.int c1)) ?_
      refine ⟨_, rfl, _, rfl, rfl, ?_⟩
      have : decide (V.int x = V.int m) = decide (m ∈ l) := by
        rw [hd, decide_eq_true (congrArg V.int c1)]
        cases l' with
        | nil => exact absurd (show x = 0 from hc) (c1 ▸ hm)
        | cons y l' => exact (decide_eq_true (by rw [hc.1, c1]; exact List.mem_cons_self ..)).symm
      rw [this]
      exact k
    refine itF (decide_eq_false fun z => c1 (V.int.inj z)) ?_
    refine ⟨_, rfl, rfl, _, rfl, ?_⟩
    by_cases c2 : x = 0
    · refine itT (decide_eq_true (congrArg V.int c2)) ?_
      refine ⟨_, rfl, _, rfl, rfl, ?_⟩
      have : decide (V.int x = V.int m) = decide (m ∈ l) := by
        rw [hd, decide_eq_false (fun z => c1 (V.int.inj z))]
        cases l' with
        | nil => rfl
        | cons y l' => exact absurd c2 hc.2.1
      rw [this]
      exact k
    refine itF (decide_eq_false fun z => c2 (V.int.inj z)) ?_
    cases l' with
    | nil => exact absurd hc c2
    | cons y l' =>
    refine ⟨_, rfl, a, rfl, ⟨_, ha⟩, for_list (K := K) (a := a) (xs := vs) (fun i' σ H'' => ∃ (s5 : Option V), σ = [some (.ref a), some (.int x), some (.int m), some (.int (0 + (i : Nat))), some (.int (parL (fl.take i') x)), s5] ∧ H'' = H') ⟨s5, rfl, rfl⟩ (fun i σ H' _ z => ?_) (fun i' y σ H' hy z => ?_) (fun σ H' z => ?_)⟩
    · obtain ⟨_, _, rfl⟩ := z; exact ha
    · obtain ⟨s5, rfl, rfl⟩ := z
      obtain ⟨r, t, hx, rfl, ht⟩ := hv.at hy
      have ps := parL_snoc (pre := fl.take i') (x := r) (q := x) fun z => z ▸ nodup_take hn hx
      rw [← take_snoc hx] at ps
      refine ⟨_, rfl, t, _, 0, _, rfl, rfl, ht, atI_nat (j := 0) rfl, _, rfl, rfl, _, rfl, ite2 (fun c => ?_) (fun c => ?_)⟩
      · rw [if_pos (V.int.inj (of_decide_eq_true c))] at ps
        rw [ps]
        exact ⟨_, rfl, t, _, 2, _, rfl, rfl, ht, atI_nat (j := 2) rfl, ⟨_, rfl, rfl⟩⟩
      · rw [if_neg (fun z => c (decide_eq_true (congrArg V.int z)))] at ps
        rw [ps]
        exact ⟨_, rfl, rfl⟩
    · obtain ⟨s5, rfl, rfl⟩ := z
      refine ⟨_, rfl, ⟨_, l', _, _, _, rfl, rfl, ?_, ?_, ?_⟩⟩
      · rw [hvl, List.take_length]
        exact hc.2.2
      · rw [hd]
        exact decide_eq_decide.mpr ⟨fun h => (List.mem_cons.mp h).resolve_left fun z => c1 (by rw [← hc.1, z]), fun h => List.mem_cons_of_mem _ h⟩
      · rw [List.length_cons] at hll
        omega
  · obtain ⟨x, l', s3, s4, s5, rfl, rfl, hc, hd, hll⟩ := z
    rw [hvl] at hll
    omega
end
end Gf
set_option Elab.async false
set_option linter.all false
set_option maxRecDepth 100000
set_option maxHeartbeats 4000000
namespace Gf
open PySem PySem.Spec PyProof.Rows L2
section
variable {P : Program} {w : World} {K : PySem.W.Frag} {mg : Str → Option Value} {base : Heap} {lt mt : Tok} {H H1 H2 H' : Hp} {sc st : Addr} {ns : List Int}
theorem RoA.ins {x : RS} {t : Addr} (ht : SqT K H t [.int x.m, .str x.w, .int x.p]) {fl : List RS} {vs : List V} (n : Nat) (h : RoA K H fl vs) : RoA K H (insAt fl n x) (vs.take n ++ [.ref t] ++ vs.drop n) := by
  unfold insAt
  rw [List.append_assoc]
  exact RoA.append (h.take n) ⟨t, _, rfl, ht, h.drop n⟩
theorem sc_put : FnScope ["_law_flat_here", "_law_row", "_law_behind", "_law_at", "_law_k"] ["_law_flat_here", "_law_row", "_law_behind"] (defScope s_put) := ⟨rfl, rfl, rfl, by decide +kernel, rfl, by decide +kernel, by decide +kernel⟩
def sp_lput (K : PySem.W.Frag) : Sp := fun vs H Q _ => ∃ (a t : Addr) (fl : List RS) (x : RS) (b : Int), vs = [.ref a, .ref t, .int b] ∧ RoL K H fl a ∧ SqT K H t [.int x.m, .str x.w, .int x.p] ∧ fl.length ≤ 900 ∧ ∀ H' c, Same H H' → RoL K H' (putL fl x b) c → Q (.ref c) H'
theorem ok_lput (D : Df K mg "_law_put" s_put ["_law_flat_here", "_law_row", "_law_behind"]) (B : Bi mg) : Pr P w K mg base CX0 1 "_law_put" ["_law_flat_here", "_law_row", "_law_behind"] (sp_lput K) := by
  refine D.ok sc_put (fun vs H Q E h => ?_) (fun fa cdv A outer s H vs Q E hr h => ?_)
  · obtain ⟨a, t, fl, x, b, rfl, _⟩ := h; rfl
  obtain ⟨a, t, fl, x, b, rfl, ⟨vs, ha, hv⟩, ht, hl, k⟩ := h
  have hvl := hv.len
  refine ⟨_, (pss_cons (ps_set (i := 3) sc_put.nd rfl (Or.inl rfl) pe_int)
    (pss_cons (ps_for PassesOwn.never rfl (pi_range1 (by rfl) B.range (pa_cons (pe_callB call_len_seq (by rfl) B.len PySem.boot_len (pa_cons (pv 0) pa_nil)) pa_nil)) (pg_name (i := 4) sc_put.nd rfl (Or.inl rfl)) (pss_one (ps_if (pt_cmpR op_eq (pe_ix ix_tup (pe_ix ix_list (pv 0) (pv 4) (fun _ _ => rfl)) pe_int (fun _ _ => rfl)) (pv 2) (nomark _)) (pss_one (ps_set (i := 3) sc_put.nd rfl (Or.inl rfl) (pe_op op_add (pv 4) pe_int))) pss_nil)))
    (pss_one (ps_ret (pe_op op_cat (pe_op op_cat (pe_slice sl_list (pv 0) po_none (po_some (pv 3))) (pe_lst (pa_cons (pv 1) pa_nil))) (pe_slice sl_list (pv 0) (po_some (pv 3)) po_none)))))), ?_⟩
  refine ⟨_, rfl, a, _, rfl, .inl ha, _, rfl, by omega, by omega, for_range (fun i σ H' => ∃ (s4 : Option V), σ = [some (.ref a), some (.ref t), some (.int b), some (.int (posL ((fl.take i).map (fun y : RS => y.m)) b : Nat)), s4] ∧ H' = H) ⟨none, rfl, rfl⟩ (fun i σ H' hi z => ?_) (fun σ H' z => ?_)⟩
  · obtain ⟨s4, rfl, rfl⟩ := z
    have hi' : i < vs.length := by
      have : ((vs.length : Nat) : Int).toNat = vs.length := rfl
      omega
    obtain ⟨r, t2, hx, e2, ht2⟩ := hv.at (List.getElem?_eq_getElem hi')
    have ps := posL_snoc r.m b ((fl.take i).map (fun y : RS => y.m))
    rw [show (fl.take i).map (fun y : RS => y.m) ++ [r.m] = (fl.take (i + 1)).map (fun y : RS => y.m) by rw [take_snoc hx, List.map_append]; rfl] at ps
    have h00 : (0 : Int) + (i : Nat) = (i : Nat) := by omega
    rw [h00]
    refine ⟨_, rfl, _, rfl, a, _, _, _, rfl, rfl, ha, atI_nat (List.getElem?_eq_getElem hi'), t2, _, 0, _, e2, rfl, ht2, atI_nat (j := 0) rfl, _, rfl, rfl, _, rfl, ite2 (fun c => ?_) (fun c => ?_)⟩
    · rw [if_pos (V.int.inj (of_decide_eq_true c)), List.length_map, List.length_take, Nat.min_eq_left (by omega)] at ps
      rw [ps]
      exact ⟨_, rfl, _, _, rfl, rfl, ⟨_, rfl, rfl⟩⟩
    · rw [if_neg (fun z => c (decide_eq_true (congrArg V.int z)))] at ps
      rw [ps]
      exact ⟨_, rfl, rfl⟩
  · obtain ⟨s4, rfl, rfl⟩ := z
    rw [show ((vs.length : Nat) : Int).toNat = fl.length from hvl, List.take_length]
    have hle := posL_le (fl.map (fun y : RS => y.m)) b
    rw [List.length_map] at hle
    refine ⟨_, rfl, _, rfl, _, rfl, a, vs, rfl, ha, fun p1 n1 => ?_⟩
    have s1 := same_upd (H := H') (o := .lst (cutV vs none (some ((posL (fl.map (fun y : RS => y.m)) b : Nat) : Int)))) n1
    refine ⟨_, rfl, (by show 1 ≤ sizeLine; decide), fun p2 n2 => ?_⟩
    refine ⟨p1, p2, _, _, rfl, rfl, same_upd n2 _ _ upd_same, upd_same, ?_, fun p3 n3 => ?_⟩
    · rw [cut_to, List.length_take, List.length_singleton]
      exact Nat.le_of_lt (fin_le (by omega))
    have s3 := (s1.trans (same_upd (o := .lst [.ref t]) n2)).trans (same_upd (o := .lst (cutV vs none (some ((posL (fl.map (fun y : RS => y.m)) b : Nat) : Int)) ++ [.ref t])) n3)
    refine ⟨_, rfl, _, rfl, _, rfl, a, vs, rfl, s3.seq ha, fun p4 n4 => ?_⟩
    have s4 := s3.trans (same_upd (o := .lst (cutV vs (some ((posL (fl.map (fun y : RS => y.m)) b : Nat) : Int)) none)) n4)
    refine ⟨p3, p4, _, _, rfl, rfl, same_upd n4 _ _ upd_same, upd_same, ?_, fun p5 n5 => ?_⟩
    · rw [cut_to, cut_from, List.length_append, List.length_take, List.length_singleton, List.length_drop]
      exact Nat.le_of_lt (fin_le (by omega))
    have s5 := s4.trans (same_upd (o := .lst ((cutV vs none (some ((posL (fl.map (fun y : RS => y.m)) b : Nat) : Int)) ++ [.ref t]) ++ cutV vs (some ((posL (fl.map (fun y : RS => y.m)) b : Nat) : Int)) none)) n5)
    refine k _ p5 s5 ⟨_, .inl (.inl upd_same), ?_⟩
    have z := RoA.ins (s5.seqT ht) (posL (fl.map (fun y : RS => y.m)) b) (hv.mono s5.kp)
    rw [← cut_to (xs := vs), ← cut_from (xs := vs)] at z
    exact z
end
end Gf
set_option Elab.async false
set_option linter.all false
set_option maxRecDepth 100000
set_option maxHeartbeats 4000000
namespace Gf
open PySem PySem.Spec PyProof.Rows L2
/-- the marks that can be stood behind -/
def behs (fl : List RS) (m p : Int) : List Int := (fl.filter fun x : RS => decide (x.p = p) && decide (x.m ≠ m)).map fun y : RS => y.m
theorem behs_mem {fl : List RS} {m p b : Int} : b ∈ behs fl m p ↔ ∃ x ∈ fl, x.p = p ∧ x.m ≠ m ∧ x.m = b := by
  unfold behs
  simp only [List.mem_map, List.mem_filter, Bool.and_eq_true, decide_eq_true_eq, and_assoc]
section
variable {P : Program} {w : World} {K : PySem.W.Frag} {mg : Str → Option Value} {base : Heap} {lt mt : Tok} {H H1 H2 H' : Hp} {sc st : Addr} {ns : List Int}
theorem lc_rows {a : Addr} {fl : List RS} {vl : List V} {g : TG} {tt : TT} {te : TE} {vs : List Nat} {σ : L2.St} {H1 : Hp} {D : Addr} {Qd : Hp → Prop} (ha : SqL K H1 a vl) (hv : RoA K H1 fl vl) (hl : fl.length ≤ 1000) (hD : H1 D = none) (p : RS → Bool) (val : RS → V)
    (hs : ∀ (x : RS) (t : Addr) (H : Hp) (Y : V → Hp → Prop) (N : Hp → Prop), x ∈ fl → Same H1 H → SqT K H t [.int x.m, .str x.w, .int x.p] → (if p x = true then Y (val x) H else N H) →
      g (.ref t) (wipe σ vs) H fun σ2 H2 => wipe σ2 vs = wipe σ vs ∧ tt σ2 H2 fun b H3 => if b = true then te σ2 H3 Y else N H3)
    (hd : ∀ H', Same H1 H' → H' D = some (.lst ((fl.filter p).map val)) → Qd H') :
    ∃ W : Nat → Nat → Hp → Prop, (∃ m, W 0 m (upd H1 D (.lst []))) ∧ ∀ i m H, W i m H →
      ((Itl K a).stop i H ∧ Qd H) ∨ ((Itl K a).go i H ∧ ∃ Nx : Hp → Prop, (∀ H', Nx H' → ∃ m', m' < m ∧ W (i + 1) m' H') ∧ ∀ x H', (Itl K a).yld i H x H' → g x (wipe σ vs) H' fun σ2 H2 => wipe σ2 vs = wipe σ vs ∧ tt σ2 H2 fun b H3 =>
        if b = true then te σ2 H3 fun y H4 => ∃ acc, H4 D = some (.lst acc) ∧ acc.length < sizeLine ∧ Nx (upd H4 D (.lst (acc ++ [y]))) else Nx H3) := by
  have hvl := hv.len
  refine lc_list (fun i H => Same H1 H ∧ H D = some (.lst (((fl.take i).filter p).map val))) ⟨same_upd hD, upd_same⟩ (fun i H _ z => z.1.seq ha) (fun i x H hx z => ?_) (fun H z => hd H z.1 (by have := z.2; rw [hvl, List.take_length] at this; exact this))
  obtain ⟨r, t, hr, rfl, ht⟩ := hv.at hx
  obtain ⟨sm, hd'⟩ := z
  refine hs r t H _ _ (List.mem_of_getElem? hr) sm (sm.seqT ht) ?_
  have e := take_snoc hr
  have hlen : (((fl.take i).filter p).map val).length ≤ 1000 := by
    rw [List.length_map]
    exact Nat.le_trans (List.length_filter_le _ _) (by rw [List.length_take]; omega)
  by_cases c : p r = true
  · rw [if_pos c]
    refine ⟨_, hd', fin_le hlen, sm.over hD, ?_⟩
    rw [upd_same, e, List.filter_append, List.map_append, List.filter_cons_of_pos c]
    rfl
  · rw [if_neg c]
    refine ⟨sm, ?_⟩
    rw [hd', e, List.filter_append, List.map_append, List.filter_cons_of_neg c]
    simp
theorem sc_reason : FnScope ["_law_flat_here", "_law_deed_here", "_law_marks", "_law_row", "_law_parent", "_law_behind"] ["_law_flat_here", "_law_deed_here"] (defScope s_reason) := ⟨rfl, rfl, rfl, by decide +kernel, rfl, by decide +kernel, by decide +kernel⟩
def sp_lreason (K : PySem.W.Frag) : Sp := fun vs H Q _ => ∃ (a da : Addr) (fl : List RS) (f : FS) (d : DS), vs = [.ref a, .ref da] ∧ RoL K H fl a ∧ SqT K H da (deV d) ∧ Rep fl f ∧ deOk d ∧ fl.length ≤ 900 ∧
  (LOk fl d → ∀ H', Same H H' → Q .non H') ∧ (¬ LOk fl d → ∀ z H', Same H H' → Q (.str z) H')
theorem ok_lreason (D : Df K mg "_law_reason" s_reason ["_law_flat_here", "_law_deed_here"]) (B : Bi mg) (G_below : Pr P w K mg base CX0 1 "_law_below" ["_law_flat_here", "_law_mark_here", "_law_m"] (sp_lbelow K)) : Pr P w K mg base CX0 2 "_law_reason" ["_law_flat_here", "_law_deed_here"] (sp_lreason K) := by
  refine D.ok sc_reason (fun vs H Q E h => ?_) (fun fa cdv A outer s H vs Q E hr h => ?_)
  · obtain ⟨a, da, fl, f, d, rfl, _⟩ := h; rfl
  obtain ⟨a, da, fl, f, d, rfl, ⟨vs, ha, hv⟩, hda, hR, hok, hl, qy, qn⟩ := h
  refine ⟨_, (pss_cons (ps_setLc (i := 2) (own := [("_law_row", 3)]) (g := gName 3) (tt := tYes) (te := tOp (rIxT K) (tVar 3) (tC (.int 0))) rfl sc_reason.nd rfl rfl (sw_true rfl rfl rfl (by decide +kernel)) (pi_list (pv 0)) (blkOk_by (N := ["_law_flat_here", "_law_deed_here", "_law_marks", "_law_row", "_law_parent", "_law_behind"]) (sc := defScope s_reason) (by decide +kernel)) (fun _ _ _ _ _ => pg_name (i := 3) sc_reason.nd rfl (Or.inl rfl)) (fun _ _ _ _ _ => pts_nil) (fun _ _ _ _ _ => (pe_ix ix_tup (pv 3) pe_int (fun _ _ => rfl))))
    (pss_cons (ps_if (pt_cmpR op_eq (pe_cmpR op_in_seq (pe_ix ix_tup (pv 1) pe_int (fun _ _ => rfl)) (pv 2) (by rfl)) (pe_cmpR op_eq (pe_ix ix_tup (pv 1) pe_int (fun _ _ => rfl)) pe_str (nomark _)) (nomark _)) (pss_one (ps_ret pe_str)) pss_nil)
    (pss_cons (ps_if (PW.pt (pw_or (pt_cmpR op_eq (pe_ix ix_tup (pv 1) pe_int (fun _ _ => rfl)) pe_str (nomark _)) (pw_or1 (pt_cmpR op_eq (pe_ix ix_tup (pv 1) pe_int (fun _ _ => rfl)) pe_str (nomark _))))) (pss_cons (ps_set (i := 4) sc_reason.nd rfl (Or.inr rfl) (pe_ix ix_tup (pv 1) (pe_op op_sub (pe_callB call_len_seq (by rfl) B.len PySem.boot_len (pa_cons (pv 1) pa_nil)) pe_int) (fun _ _ => rfl)))
    (pss_cons (ps_set (i := 5) sc_reason.nd rfl (Or.inl rfl) (pe_ix ix_tup (pv 1) (pe_op op_sub (pe_callB call_len_seq (by rfl) B.len PySem.boot_len (pa_cons (pv 1) pa_nil)) pe_int) (fun _ _ => rfl)))
    (pss_cons (ps_if (PW.pt (pw_and (pt_cmpR op_ne (pv 4) pe_int (nomark _)) (pw_and1 (pt_cmpR op_notIn_seq (pv 4) (pv 2) (by rfl))))) (pss_one (ps_ret pe_str)) pss_nil)
    (pss_cons (ps_if (PW.pt (pw_and (pt_cmpR op_eq (pe_ix ix_tup (pv 1) pe_int (fun _ _ => rfl)) pe_str (nomark _)) (pw_and1 (pt_val (pe_own G_below (hr.mono (by first | decide | omega)) (by rfl) pass0 (pa_cons (pv 0) (pa_cons (pv 4) (pa_cons (pe_ix ix_tup (pv 1) pe_int (fun _ _ => rfl)) pa_nil)))))))) (pss_one (ps_ret pe_str)) pss_nil)
    (pss_one (ps_if (PW.pt (pw_and (pt_cmpR op_ne (pv 5) pe_int (nomark _)) (pw_and1 (pt_cmpR op_notIn_seq (pv 5) (pe_lc (own := [("_law_row", 3)]) (g := gName 3)  (te := tOp (rIxT K) (tVar 3) (tC (.int 0))) (tt := tAnd (tTest (tOp rEq (tOp (rIxT K) (tVar 3) (tC (.int 2))) (tVar 4))) (tTest (tOp rNe (tOp (rIxT K) (tVar 3) (tC (.int 0))) (tOp (rIxT K) (tVar 1) (tC (.int 1)))))) rfl sc_reason.nd (pi_list (pv 0)) (blkOk_by (N := ["_law_flat_here", "_law_deed_here", "_law_marks", "_law_row", "_law_parent", "_law_behind"]) (sc := defScope s_reason) (by decide +kernel)) (fun _ _ _ _ _ => pg_name (i := 3) sc_reason.nd rfl (Or.inl rfl)) (fun _ _ _ _ _ => pts_one (PW.pt (pw_and (pt_cmpR op_eq (pe_ix ix_tup (pv 3) pe_int (fun _ _ => rfl)) (pv 4) (nomark _)) (pw_and1 (pt_cmpR op_ne (pe_ix ix_tup (pv 3) pe_int (fun _ _ => rfl)) (pe_ix ix_tup (pv 1) pe_int (fun _ _ => rfl)) (nomark _)))))) (fun _ _ _ _ _ => (pe_ix ix_tup (pv 3) pe_int (fun _ _ => rfl)))) (by rfl))))) (pss_one (ps_ret pe_str)) pss_nil)))))) pss_nil)
    (pss_cons (ps_if (PW.pt (pw_and (pt_cmpR op_eq (pe_ix ix_tup (pv 1) pe_int (fun _ _ => rfl)) pe_str (nomark _)) (pw_and1 (pt_cmpR op_in_seq (pe_ix ix_tup (pv 1) pe_int (fun _ _ => rfl)) (pe_lc (own := [("_law_row", 3)]) (g := gName 3) (tt := tYes) (te := tOp (rIxT K) (tVar 3) (tC (.int 2))) rfl sc_reason.nd (pi_list (pv 0)) (blkOk_by (N := ["_law_flat_here", "_law_deed_here", "_law_marks", "_law_row", "_law_parent", "_law_behind"]) (sc := defScope s_reason) (by decide +kernel)) (fun _ _ _ _ _ => pg_name (i := 3) sc_reason.nd rfl (Or.inl rfl)) (fun _ _ _ _ _ => pts_nil) (fun _ _ _ _ _ => (pe_ix ix_tup (pv 3) pe_int (fun _ _ => rfl)))) (by rfl))))) (pss_one (ps_ret pe_str)) pss_nil)
    (pss_one (ps_ret pe_non)))))), ?_⟩
  -- walk
  have hvl := hv.len
  refine ⟨_, rfl, a, rfl, ⟨_, ha⟩, fun D hD => lc_rows ha hv (by omega) hD (fun _ => true) (fun x => .int x.m) (fun x t H Y N hx sm ht h => ?_) (fun H1 sm hL => ?_)⟩
  · rw [show wipe _ _ = [some (.ref a), some (.ref da), none, none, none, none] from rfl]
    rw [if_pos rfl] at h
    exact ⟨rfl, ⟨_, rfl, t, _, _, _, rfl, rfl, ht, atI_nat (j := 0) rfl, h⟩⟩
  have hM : H1 D = some (.lst ((fl.map (fun y : RS => y.m)).map V.int)) := by
    rw [hL, List.filter_eq_self.mpr (fun _ _ => rfl), List.map_map]
    rfl
  have hM' : SqL K H1 D ((fl.map (fun y : RS => y.m)).map V.int) := .inl (.inl hM)
  have hd1 := sm.seqT hda
  have ha1 := sm.seq ha
  have hv1 := hv.mono sm.kp
  clear hL hM
  cases d with
  | add m u p b =>
    obtain ⟨o1, o2, o3, o4⟩ := hok
    refine ⟨_, rfl, da, _, _, _, rfl, rfl, hd1, atI_nat (j := 1) rfl, _, rfl, D, _, rfl, .inl hM', rfl, flat_ints _, _, rfl, da, _, _, _, rfl, rfl, hd1, atI_nat (j := 0) rfl, rfl, rfl, _, rfl, ?_⟩
    rw [show (if false = true then !inV (.int m) ((fl.map (fun y : RS => y.m)).map V.int) else inV (.int m) ((fl.map (fun y : RS => y.m)).map V.int)) = inV (.int m) ((fl.map (fun y : RS => y.m)).map V.int) from rfl, inV_int]
    by_cases c1 : m ∈ fl.map (fun y : RS => y.m)
    · exact itT (by rw [decide_eq_true c1]; decide +kernel) (qn (fun z => z.1 c1) _ _ sm)
    refine itF (by rw [decide_eq_false c1]; decide +kernel) ?_
    refine ⟨_, rfl, da, _, _, _, rfl, rfl, hd1, atI_nat (j := 0) rfl, rfl, _, rfl, itT (by decide +kernel) ?_⟩
    refine ⟨_, rfl, _, rfl, da, _, rfl, .inr hd1, _, _, rfl, rfl, da, _, _, _, rfl, rfl, hd1, atI_nat (j := 3) rfl, ?_⟩
    refine ⟨_, rfl, _, rfl, da, _, rfl, .inr hd1, _, _, rfl, rfl, da, _, _, _, rfl, rfl, hd1, atI_nat (j := 4) rfl, ?_⟩
    by_cases c2 : p = 0 ∨ p ∈ fl.map (fun y : RS => y.m)
    rotate_left
    · have c3 : p ≠ 0 := fun z => c2 (.inl z)
      have c4 : p ∉ fl.map (fun y : RS => y.m) := fun z => c2 (.inr z)
      refine ⟨_, rfl, rfl, _, rfl, itT (by rw [decide_eq_false (fun z => c3 (V.int.inj z))]; rfl) ?_⟩
      refine ⟨_, rfl, _, rfl, D, _, rfl, .inl hM', rfl, flat_ints _, _, rfl, itT ?_ ?_⟩
      · rw [if_pos rfl, inV_int, decide_eq_false c4]; rfl
      · exact qn (fun z => c2 z.2.1) _ _ sm
    refine ⟨_, rfl, rfl, _, rfl, andT (fun c G => ?_) ?_⟩
    · have c3 : p ≠ 0 := fun z => by rw [z] at c; exact absurd c (by decide)
      refine ⟨_, rfl, _, rfl, D, _, rfl, .inl hM', rfl, flat_ints _, _, rfl, itF ?_ G⟩
      rw [if_pos rfl, inV_int, decide_eq_true (c2.resolve_left c3)]; rfl
    refine ⟨_, rfl, da, _, _, _, rfl, rfl, hd1, atI_nat (j := 0) rfl, rfl, _, rfl, itF (by decide +kernel) ?_⟩
    have comp : ∀ (H2 : Hp), Same H1 H2 → True := fun _ _ => trivial
    by_cases c5 : BehL fl m p b
    rotate_left
    · have c6 : b ≠ 0 := fun z => c5 (.inl z)
      refine ⟨_, rfl, rfl, _, rfl, itT (by rw [decide_eq_false (fun z => c6 (V.int.inj z))]; rfl) ?_⟩
      refine ⟨_, rfl, _, rfl, a, rfl, ⟨_, ha1⟩, fun D2 hD2 => lc_rows ha1 hv1 (by omega) hD2 (fun x => decide (x.p = p) && decide (x.m ≠ m)) (fun x => .int x.m) (fun x t H Y N hx sm2 ht h => ?_) (fun H2 sm2 hL => ?_)⟩
      · rw [show wipe _ _ = [some (.ref a), some (.ref da), some (.ref D), none, some (.int p), some (.int b)] from rfl]
        refine ⟨rfl, ⟨_, rfl, t, _, _, _, rfl, rfl, ht, atI_nat (j := 2) rfl, _, rfl, rfl, _, rfl, ?_⟩⟩
        by_cases c7 : x.p = p
        rotate_left
        · refine itF (decide_eq_false fun z => c7 (V.int.inj z)) ?_
          rw [decide_eq_false c7, if_neg (by simp)] at h
          exact itF rfl h
        refine itT (decide_eq_true (congrArg V.int c7)) ?_
        refine ⟨_, rfl, t, _, _, _, rfl, rfl, ht, atI_nat (j := 0) rfl, _, rfl, da, _, _, _, rfl, rfl, sm2.seqT hd1, atI_nat (j := 1) rfl, rfl, _, rfl, ?_⟩
        by_cases c8 : x.m = m
        · rw [c8, if_neg (by simp)] at h
          exact itF (by rw [c8]; simp) h
        · rw [if_pos (by simp [c7, c8])] at h
          exact itT (by simp [c8]) ⟨_, rfl, t, _, 0, _, rfl, rfl, ht, atI_nat (j := 0) rfl, h⟩
      · rw [List.filter_congr (fun _ _ => rfl)] at hL
        have hL' : H2 D2 = some (.lst ((behs fl m p).map V.int)) := by rw [hL]; unfold behs; rw [List.map_map]; rfl
        refine ⟨D2, _, rfl, .inl (.inl (.inl hL')), rfl, flat_ints _, _, rfl, itT ?_ ?_⟩
        · rw [if_pos rfl, inV_int, decide_eq_false (fun z => c5 (.inr (behs_mem.mp z)))]; rfl
        · exact qn (fun z => c5 z.2.2) _ _ (sm.trans sm2)
    refine ⟨_, rfl, rfl, _, rfl, ?_⟩
    by_cases c6 : b = 0
    · refine itF (by rw [c6]; rfl) ?_
      refine ⟨_, rfl, da, _, _, _, rfl, rfl, hd1, atI_nat (j := 0) rfl, rfl, _, rfl, itF (by decide +kernel) ?_⟩
      exact qy ⟨c1, c2, c5⟩ _ sm
    · refine itT (by rw [decide_eq_false (fun z => c6 (V.int.inj z))]; rfl) ?_
      refine ⟨_, rfl, _, rfl, a, rfl, ⟨_, ha1⟩, fun D2 hD2 => lc_rows ha1 hv1 (by omega) hD2 (fun x => decide (x.p = p) && decide (x.m ≠ m)) (fun x => .int x.m) (fun x t H Y N hx sm2 ht h => ?_) (fun H2 sm2 hL => ?_)⟩
      · rw [show wipe _ _ = [some (.ref a), some (.ref da), some (.ref D), none, some (.int p), some (.int b)] from rfl]
        refine ⟨rfl, ⟨_, rfl, t, _, _, _, rfl, rfl, ht, atI_nat (j := 2) rfl, _, rfl, rfl, _, rfl, ?_⟩⟩
        by_cases c7 : x.p = p
        rotate_left
        · refine itF (decide_eq_false fun z => c7 (V.int.inj z)) ?_
          rw [decide_eq_false c7, if_neg (by simp)] at h
          exact itF rfl h
        refine itT (decide_eq_true (congrArg V.int c7)) ?_
        refine ⟨_, rfl, t, _, _, _, rfl, rfl, ht, atI_nat (j := 0) rfl, _, rfl, da, _, _, _, rfl, rfl, sm2.seqT hd1, atI_nat (j := 1) rfl, rfl, _, rfl, ?_⟩
        by_cases c8 : x.m = m
        · rw [c8, if_neg (by simp)] at h
          exact itF (by rw [c8]; simp) h
        · rw [if_pos (by simp [c7, c8])] at h
          exact itT (by simp [c8]) ⟨_, rfl, t, _, 0, _, rfl, rfl, ht, atI_nat (j := 0) rfl, h⟩
      · have hL' : H2 D2 = some (.lst ((behs fl m p).map V.int)) := by rw [hL]; unfold behs; rw [List.map_map]; rfl
        refine ⟨D2, _, rfl, .inl (.inl (.inl hL')), rfl, flat_ints _, _, rfl, itF ?_ ?_⟩
        · rw [if_pos rfl, inV_int, decide_eq_true (behs_mem.mpr (c5.resolve_left c6))]; rfl
        · refine ⟨_, rfl, da, _, _, _, rfl, rfl, (sm2.seqT hd1), atI_nat (j := 0) rfl, rfl, _, rfl, itF (by decide +kernel) ?_⟩
          exact qy ⟨c1, c2, c5⟩ _ (sm.trans sm2)
  | drop m =>
    refine ⟨_, rfl, da, _, _, _, rfl, rfl, hd1, atI_nat (j := 1) rfl, _, rfl, D, _, rfl, .inl hM', rfl, flat_ints _, _, rfl, da, _, _, _, rfl, rfl, hd1, atI_nat (j := 0) rfl, rfl, rfl, _, rfl, ?_⟩
    rw [show (if false = true then !inV (.int m) ((fl.map (fun y : RS => y.m)).map V.int) else inV (.int m) ((fl.map (fun y : RS => y.m)).map V.int)) = inV (.int m) ((fl.map (fun y : RS => y.m)).map V.int) from rfl, inV_int]
    by_cases c1 : m ∈ fl.map (fun y : RS => y.m)
    rotate_left
    · exact itT (by rw [decide_eq_false c1]; decide +kernel) (qn (fun z => c1 z.1) _ _ sm)
    refine itF (by rw [decide_eq_true c1]; decide +kernel) ?_
    refine ⟨_, rfl, da, _, _, _, rfl, rfl, hd1, atI_nat (j := 0) rfl, rfl, _, rfl, itF (by decide +kernel) ?_⟩
    refine ⟨_, rfl, da, _, _, _, rfl, rfl, hd1, atI_nat (j := 0) rfl, rfl, _, rfl, itF (by decide +kernel) ?_⟩
    refine ⟨_, rfl, da, _, _, _, rfl, rfl, hd1, atI_nat (j := 0) rfl, rfl, _, rfl, itT (by decide +kernel) ?_⟩
    refine ⟨_, rfl, da, _, _, _, rfl, rfl, hd1, atI_nat (j := 1) rfl, _, rfl, a, rfl, ⟨_, ha1⟩, fun D2 hD2 => lc_rows ha1 hv1 (by omega) hD2 (fun _ => true) (fun x => .int x.p) (fun x t H Y N hx sm2 ht h => ?_) (fun H2 sm2 hL => ?_)⟩
    · rw [show wipe _ _ = [some (.ref a), some (.ref da), some (.ref D), none, none, none] from rfl]
      rw [if_pos rfl] at h
      exact ⟨rfl, ⟨_, rfl, t, _, _, _, rfl, rfl, ht, atI_nat (j := 2) rfl, h⟩⟩
    have hL' : H2 D2 = some (.lst ((fl.map (fun y : RS => y.p)).map V.int)) := by
      rw [hL, List.filter_eq_self.mpr (fun _ _ => rfl), List.map_map]
      rfl
    refine ⟨D2, _, rfl, .inl (.inl (.inl hL')), rfl, flat_ints _, _, rfl, ?_⟩
    rw [if_neg Bool.false_ne_true, inV_int]
    by_cases c2 : m ∈ fl.map (fun y : RS => y.p)
    · exact itT (decide_eq_true c2) (qn (fun z => z.2 c2) _ _ (sm.trans sm2))
    · exact itF (decide_eq_false c2) (qy ⟨c1, c2⟩ _ (sm.trans sm2))
  | move m p b =>
    obtain ⟨o1, o3, o4⟩ := hok
    refine ⟨_, rfl, da, _, _, _, rfl, rfl, hd1, atI_nat (j := 1) rfl, _, rfl, D, _, rfl, .inl hM', rfl, flat_ints _, _, rfl, da, _, _, _, rfl, rfl, hd1, atI_nat (j := 0) rfl, rfl, rfl, _, rfl, ?_⟩
    rw [show (if false = true then !inV (.int m) ((fl.map (fun y : RS => y.m)).map V.int) else inV (.int m) ((fl.map (fun y : RS => y.m)).map V.int)) = inV (.int m) ((fl.map (fun y : RS => y.m)).map V.int) from rfl, inV_int]
    by_cases c1 : m ∈ fl.map (fun y : RS => y.m)
    rotate_left
    · exact itT (by rw [decide_eq_false c1]; decide +kernel) (qn (fun z => c1 z.1) _ _ sm)
    refine itF (by rw [decide_eq_true c1]; decide +kernel) ?_
    refine ⟨_, rfl, da, _, _, _, rfl, rfl, hd1, atI_nat (j := 0) rfl, rfl, _, rfl, itF (by decide +kernel) ?_⟩
    refine ⟨_, rfl, da, _, _, _, rfl, rfl, hd1, atI_nat (j := 0) rfl, rfl, _, rfl, itT (by decide +kernel) ?_⟩
    refine ⟨_, rfl, _, rfl, da, _, rfl, .inr hd1, _, _, rfl, rfl, da, _, _, _, rfl, rfl, hd1, atI_nat (j := 2) rfl, ?_⟩
    refine ⟨_, rfl, _, rfl, da, _, rfl, .inr hd1, _, _, rfl, rfl, da, _, _, _, rfl, rfl, hd1, atI_nat (j := 3) rfl, ?_⟩
    by_cases c2 : p = 0 ∨ p ∈ fl.map (fun y : RS => y.m)
    rotate_left
    · have c3 : p ≠ 0 := fun z => c2 (.inl z)
      have c4 : p ∉ fl.map (fun y : RS => y.m) := fun z => c2 (.inr z)
      refine ⟨_, rfl, rfl, _, rfl, itT (by rw [decide_eq_false (fun z => c3 (V.int.inj z))]; rfl) ?_⟩
      refine ⟨_, rfl, _, rfl, D, _, rfl, .inl hM', rfl, flat_ints _, _, rfl, itT ?_ ?_⟩
      · rw [if_pos rfl, inV_int, decide_eq_false c4]; rfl
      · exact qn (fun z => c2 z.2.1) _ _ sm
    refine ⟨_, rfl, rfl, _, rfl, andT (fun c G => ?_) ?_⟩
    · have c3 : p ≠ 0 := fun z => by rw [z] at c; exact absurd c (by decide)
      refine ⟨_, rfl, _, rfl, D, _, rfl, .inl hM', rfl, flat_ints _, _, rfl, itF ?_ G⟩
      rw [if_pos rfl, inV_int, decide_eq_true (c2.resolve_left c3)]; rfl
    refine ⟨_, rfl, da, _, _, _, rfl, rfl, hd1, atI_nat (j := 0) rfl, rfl, _, rfl, itT (by decide +kernel) ?_⟩
    have hpar : parL fl = parF f := funext hR.par
    obtain ⟨l, hc, hcl⟩ := chain_of hR.nd hR.pos (p := p) (c2.imp id fun z => hR.mm.mp z)
    rw [← hpar] at hc
    have hdl := depth_le f
    have hfl := hR.len
    have hin : Inside (parL fl) m p ↔ m ∈ l := ⟨fun ⟨l', h1, h2⟩ => chn_uniq h1 hc ▸ h2, fun h => ⟨l, hc, h⟩⟩
    refine ⟨_, rfl, _, rfl, _, rfl, da, _, _, _, rfl, rfl, hd1, atI_nat (j := 1) rfl, a, fl, p, m, l, rfl, ⟨_, ha1, hv1⟩, by omega, hR.nl, by omega, hc, by omega, ?_⟩
    refine ⟨_, rfl, ?_⟩
    by_cases c9 : m ∈ l
    · exact itT (decide_eq_true c9) (qn (fun z => z.2.2.1 (hin.mpr c9)) _ _ sm)
    refine itF (decide_eq_false c9) ?_
    have comp : ∀ (H2 : Hp), Same H1 H2 → True := fun _ _ => trivial
    by_cases c5 : BehL fl m p b
    rotate_left
    · have c6 : b ≠ 0 := fun z => c5 (.inl z)
      refine ⟨_, rfl, rfl, _, rfl, itT (by rw [decide_eq_false (fun z => c6 (V.int.inj z))]; rfl) ?_⟩
      refine ⟨_, rfl, _, rfl, a, rfl, ⟨_, ha1⟩, fun D2 hD2 => lc_rows ha1 hv1 (by omega) hD2 (fun x => decide (x.p = p) && decide (x.m ≠ m)) (fun x => .int x.m) (fun x t H Y N hx sm2 ht h => ?_) (fun H2 sm2 hL => ?_)⟩
      · rw [show wipe _ _ = [some (.ref a), some (.ref da), some (.ref D), none, some (.int p), some (.int b)] from rfl]
        refine ⟨rfl, ⟨_, rfl, t, _, _, _, rfl, rfl, ht, atI_nat (j := 2) rfl, _, rfl, rfl, _, rfl, ?_⟩⟩
        by_cases c7 : x.p = p
        rotate_left
        · refine itF (decide_eq_false fun z => c7 (V.int.inj z)) ?_
          rw [decide_eq_false c7, if_neg (by simp)] at h
          exact itF rfl h
        refine itT (decide_eq_true (congrArg V.int c7)) ?_
        refine ⟨_, rfl, t, _, _, _, rfl, rfl, ht, atI_nat (j := 0) rfl, _, rfl, da, _, _, _, rfl, rfl, sm2.seqT hd1, atI_nat (j := 1) rfl, rfl, _, rfl, ?_⟩
        by_cases c8 : x.m = m
        · rw [c8, if_neg (by simp)] at h
          exact itF (by rw [c8]; simp) h
        · rw [if_pos (by simp [c7, c8])] at h
          exact itT (by simp [c8]) ⟨_, rfl, t, _, 0, _, rfl, rfl, ht, atI_nat (j := 0) rfl, h⟩
      · rw [List.filter_congr (fun _ _ => rfl)] at hL
        have hL' : H2 D2 = some (.lst ((behs fl m p).map V.int)) := by rw [hL]; unfold behs; rw [List.map_map]; rfl
        refine ⟨D2, _, rfl, .inl (.inl (.inl hL')), rfl, flat_ints _, _, rfl, itT ?_ ?_⟩
        · rw [if_pos rfl, inV_int, decide_eq_false (fun z => c5 (.inr (behs_mem.mp z)))]; rfl
        · exact qn (fun z => c5 z.2.2.2) _ _ (sm.trans sm2)
    refine ⟨_, rfl, rfl, _, rfl, ?_⟩
    by_cases c6 : b = 0
    · refine itF (by rw [c6]; rfl) ?_
      refine ⟨_, rfl, da, _, _, _, rfl, rfl, hd1, atI_nat (j := 0) rfl, rfl, _, rfl, itF (by decide +kernel) ?_⟩
      exact qy ⟨c1, c2, fun z => c9 (hin.mp z), c5⟩ _ sm
    · refine itT (by rw [decide_eq_false (fun z => c6 (V.int.inj z))]; rfl) ?_
      refine ⟨_, rfl, _, rfl, a, rfl, ⟨_, ha1⟩, fun D2 hD2 => lc_rows ha1 hv1 (by omega) hD2 (fun x => decide (x.p = p) && decide (x.m ≠ m)) (fun x => .int x.m) (fun x t H Y N hx sm2 ht h => ?_) (fun H2 sm2 hL => ?_)⟩
      · rw [show wipe _ _ = [some (.ref a), some (.ref da), some (.ref D), none, some (.int p), some (.int b)] from rfl]
        refine ⟨rfl, ⟨_, rfl, t, _, _, _, rfl, rfl, ht, atI_nat (j := 2) rfl, _, rfl, rfl, _, rfl, ?_⟩⟩
        by_cases c7 : x.p = p
        rotate_left
        · refine itF (decide_eq_false fun z => c7 (V.int.inj z)) ?_
          rw [decide_eq_false c7, if_neg (by simp)] at h
          exact itF rfl h
        refine itT (decide_eq_true (congrArg V.int c7)) ?_
        refine ⟨_, rfl, t, _, _, _, rfl, rfl, ht, atI_nat (j := 0) rfl, _, rfl, da, _, _, _, rfl, rfl, sm2.seqT hd1, atI_nat (j := 1) rfl, rfl, _, rfl, ?_⟩
        by_cases c8 : x.m = m
        · rw [c8, if_neg (by simp)] at h
          exact itF (by rw [c8]; simp) h
        · rw [if_pos (by simp [c7, c8])] at h
          exact itT (by simp [c8]) ⟨_, rfl, t, _, 0, _, rfl, rfl, ht, atI_nat (j := 0) rfl, h⟩
      · have hL' : H2 D2 = some (.lst ((behs fl m p).map V.int)) := by rw [hL]; unfold behs; rw [List.map_map]; rfl
        refine ⟨D2, _, rfl, .inl (.inl (.inl hL')), rfl, flat_ints _, _, rfl, itF ?_ ?_⟩
        · rw [if_pos rfl, inV_int, decide_eq_true (behs_mem.mpr (c5.resolve_left c6))]; rfl
        · refine ⟨_, rfl, da, _, _, _, rfl, rfl, (sm2.seqT hd1), atI_nat (j := 0) rfl, rfl, _, rfl, itF (by decide +kernel) ?_⟩
          exact qy ⟨c1, c2, fun z => c9 (hin.mp z), c5⟩ _ (sm.trans sm2)
  | word m u =>
    refine ⟨_, rfl, da, _, _, _, rfl, rfl, hd1, atI_nat (j := 1) rfl, _, rfl, D, _, rfl, .inl hM', rfl, flat_ints _, _, rfl, da, _, _, _, rfl, rfl, hd1, atI_nat (j := 0) rfl, rfl, rfl, _, rfl, ?_⟩
    rw [show (if false = true then !inV (.int m) ((fl.map (fun y : RS => y.m)).map V.int) else inV (.int m) ((fl.map (fun y : RS => y.m)).map V.int)) = inV (.int m) ((fl.map (fun y : RS => y.m)).map V.int) from rfl, inV_int]
    by_cases c1 : m ∈ fl.map (fun y : RS => y.m)
    rotate_left
    · exact itT (by rw [decide_eq_false c1]; decide +kernel) (qn (fun z => c1 z) _ _ sm)
    refine itF (by rw [decide_eq_true c1]; decide +kernel) ?_
    refine ⟨_, rfl, da, _, _, _, rfl, rfl, hd1, atI_nat (j := 0) rfl, rfl, _, rfl, itF (by decide +kernel) ?_⟩
    refine ⟨_, rfl, da, _, _, _, rfl, rfl, hd1, atI_nat (j := 0) rfl, rfl, _, rfl, itF (by decide +kernel) ?_⟩
    refine ⟨_, rfl, da, _, _, _, rfl, rfl, hd1, atI_nat (j := 0) rfl, rfl, _, rfl, itF (by decide +kernel) ?_⟩
    exact qy c1 _ sm
end
end Gf
set_option Elab.async false
set_option linter.all false
set_option maxRecDepth 100000
set_option maxHeartbeats 4000000
namespace Gf
open PySem PySem.Spec PyProof.Rows L2
/-- values stand for rows, one each -/
def RelL (Rl : RS → V → Hp → Prop) (H : Hp) : List RS → List V → Prop
  | [], vs => vs = []
  | x :: l, vs => ∃ v rest, vs = v :: rest ∧ Rl x v H ∧ RelL Rl H l rest
section
variable {P : Program} {w : World} {K : PySem.W.Frag} {mg : Str → Option Value} {base : Heap} {lt mt : Tok} {H H1 H2 H' : Hp} {sc st : Addr} {ns : List Int}
theorem RelL.len {Rl : RS → V → Hp → Prop} : ∀ {l : List RS} {vs : List V}, RelL Rl H l vs → vs.length = l.length
  | [], _, h => by rw [show _ = [] from h]; rfl
  | _ :: _, _, ⟨v, rest, e, h1, h2⟩ => by rw [e, List.length_cons, List.length_cons, RelL.len h2]
theorem RelL.mono {Rl : RS → V → Hp → Prop} (hm : ∀ x v, Rl x v H → Rl x v H') : ∀ {l : List RS} {vs : List V}, RelL Rl H l vs → RelL Rl H' l vs
  | [], _, h => h
  | _ :: _, _, ⟨v, rest, e, h1, h2⟩ => ⟨v, rest, e, hm _ _ h1, RelL.mono hm h2⟩
theorem RelL.snoc {Rl : RS → V → Hp → Prop} {x : RS} {v : V} (hv : Rl x v H) : ∀ {l : List RS} {vs : List V}, RelL Rl H l vs → RelL Rl H (l ++ [x]) (vs ++ [v])
  | [], _, h => by rw [show _ = [] from h]; exact ⟨v, [], rfl, hv, rfl⟩
  | _ :: _, _, ⟨u, rest, e, h1, h2⟩ => by rw [e]; exact ⟨u, _, rfl, h1, RelL.snoc hv h2⟩
theorem RelL.rows (φ : RS → RS) : ∀ {l : List RS} {vs : List V}, RelL (fun x v H => ∃ t, v = .ref t ∧ SqT K H t [.int (φ x).m, .str (φ x).w, .int (φ x).p]) H l vs → RoA K H (l.map φ) vs
  | [], _, h => h
  | _ :: _, _, ⟨u, rest, e, ⟨t, h0, h1⟩, h2⟩ => ⟨t, rest, by rw [e, h0], h1, RelL.rows φ h2⟩
theorem lc_ref {a : Addr} {fl : List RS} {vl : List V} {g : TG} {tt : TT} {te : TE} {vs : List Nat} {σ : L2.St} {H1 : Hp} {D : Addr} {Qd : Hp → Prop} (ha : SqL K H1 a vl) (hv : RoA K H1 fl vl) (hl : fl.length ≤ 1000) (hD : H1 D = none) (p : RS → Bool) (Rl : RS → V → Hp → Prop)
    (hm : ∀ H H' x v, Kp K H H' → Rl x v H → Rl x v H')
    (hs : ∀ (x : RS) (t : Addr) (H : Hp) (Y : V → Hp → Prop) (N : Hp → Prop), x ∈ fl → Same H1 H → SqT K H t [.int x.m, .str x.w, .int x.p] → (if p x = true then ∀ v H', Same H H' → Rl x v H' → Y v H' else N H) →
      g (.ref t) (wipe σ vs) H fun σ2 H2 => wipe σ2 vs = wipe σ vs ∧ tt σ2 H2 fun b H3 => if b = true then te σ2 H3 Y else N H3)
    (hd : ∀ H' acc, Same H1 H' → H' D = some (.lst acc) → RelL Rl H' (fl.filter p) acc → Qd H') :
    ∃ W : Nat → Nat → Hp → Prop, (∃ m, W 0 m (upd H1 D (.lst []))) ∧ ∀ i m H, W i m H →
      ((Itl K a).stop i H ∧ Qd H) ∨ ((Itl K a).go i H ∧ ∃ Nx : Hp → Prop, (∀ H', Nx H' → ∃ m', m' < m ∧ W (i + 1) m' H') ∧ ∀ x H', (Itl K a).yld i H x H' → g x (wipe σ vs) H' fun σ2 H2 => wipe σ2 vs = wipe σ vs ∧ tt σ2 H2 fun b H3 =>
        if b = true then te σ2 H3 fun y H4 => ∃ acc, H4 D = some (.lst acc) ∧ acc.length < sizeLine ∧ Nx (upd H4 D (.lst (acc ++ [y]))) else Nx H3) := by
  have hvl := hv.len
  refine lc_list (fun i H => Same H1 H ∧ ∃ acc, H D = some (.lst acc) ∧ RelL Rl H ((fl.take i).filter p) acc) ⟨same_upd hD, [], upd_same, rfl⟩ (fun i H _ z => z.1.seq ha) (fun i x H hx z => ?_) (fun H z => by
    obtain ⟨s, acc, h1, h2⟩ := z
    rw [hvl, List.take_length] at h2
    exact hd H acc s h1 h2)
  obtain ⟨r, t, hr, rfl, ht⟩ := hv.at hx
  obtain ⟨sm, acc, hd', hacc⟩ := z
  refine hs r t H _ _ (List.mem_of_getElem? hr) sm (sm.seqT ht) ?_
  have e := take_snoc hr
  have hlen : acc.length ≤ 1000 := by
    rw [hacc.len]
    exact Nat.le_trans (List.length_filter_le _ _) (by rw [List.length_take]; omega)
  by_cases c : p r = true
  · rw [if_pos c]
    intro v H' s' hR
    have hD' := s' _ _ hd'
    refine ⟨_, hD', fin_le hlen, (sm.trans s').over hD, _, upd_same, ?_⟩
    rw [e, List.filter_append, List.filter_cons_of_pos c]
    have kp := Kp.lst (K := K) (o := .lst (acc ++ [v])) hD'
    exact RelL.snoc (hm _ _ _ _ kp hR) (hacc.mono fun x v z => hm _ _ _ _ (s'.kp.trans kp) z)
  · rw [if_neg c]
    refine ⟨sm, acc, hd', ?_⟩
    rw [e, List.filter_append, List.filter_cons_of_neg c]
    simpa using hacc
theorem sc_done : FnScope ["_law_flat_here", "_law_deed_here", "_law_rest", "_law_row", "_law_words"] ["_law_flat_here", "_law_deed_here"] (defScope s_done) := ⟨rfl, rfl, rfl, by decide +kernel, rfl, by decide +kernel, by decide +kernel⟩
def sp_ldone (K : PySem.W.Frag) : Sp := fun vs H Q _ => ∃ (a da : Addr) (fl : List RS) (d : DS), vs = [.ref a, .ref da] ∧ RoL K H fl a ∧ SqT K H da (deV d) ∧ fl.length ≤ 800 ∧ (deM d ∈ fl.map (fun y : RS => y.m) ∨ ∃ m u p b, d = .add m u p b) ∧ ∀ H' c, Same H H' → RoL K H' (done fl d) c → Q (.ref c) H'
theorem ok_ldone (D : Df K mg "_law_done" s_done ["_law_flat_here", "_law_deed_here"]) (B : Bi mg) (G_put : Pr P w K mg base CX0 1 "_law_put" ["_law_flat_here", "_law_row", "_law_behind"] (sp_lput K)) : Pr P w K mg base CX0 2 "_law_done" ["_law_flat_here", "_law_deed_here"] (sp_ldone K) := by
  refine D.ok sc_done (fun vs H Q E h => ?_) (fun fa cdv A outer s H vs Q E hr h => ?_)
  · obtain ⟨a, da, fl, d, rfl, _⟩ := h; rfl
  obtain ⟨a, da, fl, d, rfl, ⟨vs, ha, hv⟩, hda, hl, hmem, q⟩ := h
  refine ⟨_, (pss_cons (ps_setLc (i := 2) (own := [("_law_row", 3)]) (g := gName 3)  (te := tVar 3) (tt := tTest (tOp rNe (tOp (rIxT K) (tVar 3) (tC (.int 0))) (tOp (rIxT K) (tVar 1) (tC (.int 1))))) rfl sc_done.nd rfl rfl (sw_true rfl rfl rfl (by decide +kernel)) (pi_list (pv 0)) (blkOk_by (N := ["_law_flat_here", "_law_deed_here", "_law_rest", "_law_row", "_law_words"]) (sc := defScope s_done) (by decide +kernel)) (fun _ _ _ _ _ => pg_name (i := 3) sc_done.nd rfl (Or.inl rfl)) (fun _ _ _ _ _ => pts_one (pt_cmpR op_ne (pe_ix ix_tup (pv 3) pe_int (fun _ _ => rfl)) (pe_ix ix_tup (pv 1) pe_int (fun _ _ => rfl)) (nomark _))) (fun _ _ _ _ _ => (pv 3)))
    (pss_cons (ps_if (pt_cmpR op_eq (pe_ix ix_tup (pv 1) pe_int (fun _ _ => rfl)) pe_str (nomark _)) (pss_one (ps_ret (pe_lc (own := [("_law_row", 3)]) (g := gName 3) (tt := tYes) (te := tTup (tCons (tOp (rIxT K) (tVar 3) (tC (.int 0))) (tCons (tOp (rIxL K) (tLst (tCons (tOp (rIxT K) (tVar 3) (tC (.int 1))) (tCons (tOp (rIxT K) (tVar 1) (tC (.int 2))) tNil))) (tCB (fun xs H Q => (∃ i : Int, xs = [V.int i] ∧ Q (V.int i) H) ∨ ∃ k : Bool, xs = [V.bl k] ∧ Q (V.int (if k then 1 else 0)) H) (tCons (tOp rEq (tOp (rIxT K) (tVar 3) (tC (.int 0))) (tOp (rIxT K) (tVar 1) (tC (.int 1)))) tNil))) (tCons (tOp (rIxT K) (tVar 3) (tC (.int 2))) tNil)))) rfl sc_done.nd (pi_list (pv 0)) (blkOk_by (N := ["_law_flat_here", "_law_deed_here", "_law_rest", "_law_row", "_law_words"]) (sc := defScope s_done) (by decide +kernel)) (fun _ _ _ _ _ => pg_name (i := 3) sc_done.nd rfl (Or.inl rfl)) (fun _ _ _ _ _ => pts_nil) (fun _ _ _ _ _ => (pe_tup (pa_cons (pe_ix ix_tup (pv 3) pe_int (fun _ _ => rfl)) (pa_cons (pe_ix ix_list (pe_lst (pa_cons (pe_ix ix_tup (pv 3) pe_int (fun _ _ => rfl)) (pa_cons (pe_ix ix_tup (pv 1) pe_int (fun _ _ => rfl)) pa_nil))) (pe_callTy call_int1 (by rfl) B.tint (by decide +kernel) (pa_cons (pe_cmpR op_eq (pe_ix ix_tup (pv 3) pe_int (fun _ _ => rfl)) (pe_ix ix_tup (pv 1) pe_int (fun _ _ => rfl)) (nomark _)) pa_nil)) (fun _ _ => rfl)) (pa_cons (pe_ix ix_tup (pv 3) pe_int (fun _ _ => rfl)) pa_nil)))))))) pss_nil)
    (pss_cons (ps_if (pt_cmpR op_eq (pe_ix ix_tup (pv 1) pe_int (fun _ _ => rfl)) pe_str (nomark _)) (pss_one (ps_ret (pe_own G_put (hr.mono (by first | decide | omega)) (by rfl) pass0 (pa_cons (pv 2) (pa_cons (pe_tup (pa_cons (pe_ix ix_tup (pv 1) pe_int (fun _ _ => rfl)) (pa_cons (pe_ix ix_tup (pv 1) pe_int (fun _ _ => rfl)) (pa_cons (pe_ix ix_tup (pv 1) pe_int (fun _ _ => rfl)) pa_nil)))) (pa_cons (pe_ix ix_tup (pv 1) pe_int (fun _ _ => rfl)) pa_nil)))))) pss_nil)
    (pss_cons (ps_if (pt_cmpR op_eq (pe_ix ix_tup (pv 1) pe_int (fun _ _ => rfl)) pe_str (nomark _)) (pss_cons (ps_setLc (i := 4) (own := [("_law_row", 3)]) (g := gName 3)  (te := tOp (rIxT K) (tVar 3) (tC (.int 1))) (tt := tTest (tOp rEq (tOp (rIxT K) (tVar 3) (tC (.int 0))) (tOp (rIxT K) (tVar 1) (tC (.int 1))))) rfl sc_done.nd rfl rfl (sw_true rfl rfl rfl (by decide +kernel)) (pi_list (pv 0)) (blkOk_by (N := ["_law_flat_here", "_law_deed_here", "_law_rest", "_law_row", "_law_words"]) (sc := defScope s_done) (by decide +kernel)) (fun _ _ _ _ _ => pg_name (i := 3) sc_done.nd rfl (Or.inl rfl)) (fun _ _ _ _ _ => pts_one (pt_cmpR op_eq (pe_ix ix_tup (pv 3) pe_int (fun _ _ => rfl)) (pe_ix ix_tup (pv 1) pe_int (fun _ _ => rfl)) (nomark _))) (fun _ _ _ _ _ => (pe_ix ix_tup (pv 3) pe_int (fun _ _ => rfl))))
    (pss_one (ps_ret (pe_own G_put (hr.mono (by first | decide | omega)) (by rfl) pass0 (pa_cons (pv 2) (pa_cons (pe_tup (pa_cons (pe_ix ix_tup (pv 1) pe_int (fun _ _ => rfl)) (pa_cons (pe_ix ix_list (pv 4) pe_int (fun _ _ => rfl)) (pa_cons (pe_ix ix_tup (pv 1) pe_int (fun _ _ => rfl)) pa_nil)))) (pa_cons (pe_ix ix_tup (pv 1) pe_int (fun _ _ => rfl)) pa_nil))))))) pss_nil)
    (pss_one (ps_ret (pv 2))))))), ?_⟩
  have hrow : ∀ (H H' : Hp) (x : RS) (v : V), Kp K H H' → (∃ t, v = .ref t ∧ SqT K H t [.int x.m, .str x.w, .int x.p]) → ∃ t, v = .ref t ∧ SqT K H' t [.int x.m, .str x.w, .int x.p] := fun H H' x v k ⟨t, e, h⟩ => ⟨t, e, k.t _ _ h⟩
  have hdm : ∃ z : List V, ∃ k : Str, deV d = .str k :: .int (deM d) :: z := by
    cases d with
    | add m u p b => exact ⟨_, _, rfl⟩
    | drop m => exact ⟨_, _, rfl⟩
    | move m p b => exact ⟨_, _, rfl⟩
    | word m u => exact ⟨_, _, rfl⟩
  obtain ⟨dz, dk, hdz⟩ := hdm
  refine ⟨_, rfl, a, rfl, ⟨_, ha⟩, fun D hD => lc_ref ha hv (by omega) hD (fun x => decide (x.m ≠ deM d)) (fun x v H => ∃ t, v = .ref t ∧ SqT K H t [.int x.m, .str x.w, .int x.p]) hrow (fun x t H2 Y N hx sm ht h => ?_) (fun H1 acc sm hL hA => ?_)⟩
  · rw [show wipe _ _ = [some (.ref a), some (.ref da), none, none, none] from rfl]
    have hda2 := sm.seqT hda
    rw [hdz] at hda2
    refine ⟨rfl, ⟨_, rfl, t, _, _, _, rfl, rfl, ht, atI_nat (j := 0) rfl, _, rfl, da, _, _, _, rfl, rfl, hda2, atI_nat (j := 1) rfl, rfl, _, rfl, ?_⟩⟩
    by_cases c : x.m = deM d
    · rw [if_neg (by simp [c])] at h
      exact itF (by simp [c]) h
    · rw [if_pos (by simp [c])] at h
      exact itT (by simp [c]) ⟨_, rfl, h _ H2 (Same.refl _) ⟨t, rfl, ht⟩⟩
  have hA' : RoA K H1 (less fl (deM d)) acc := by
    have := RelL.rows id hA
    rw [List.map_id] at this
    exact this
  have hD1 : SqL K H1 D acc := .inl (.inl hL)
  have hd1 := sm.seqT hda
  -- walk
  have ha1 := sm.seq ha
  have hv1 := hv.mono sm.kp
  have hll : (less fl (deM d)).length ≤ 800 := Nat.le_trans (List.length_filter_le _ _) hl
  have z2 : 2 ≤ sizeLine := Nat.le_of_lt (small1000 (by decide))
  have z3 : 3 ≤ sizeLine := Nat.le_of_lt (small1000 (by decide))
  cases d with
  | word m u =>
    refine ⟨_, rfl, da, _, _, _, rfl, rfl, hd1, atI_nat (j := 0) rfl, rfl, _, rfl, itT (by decide +kernel) ?_⟩
    refine ⟨_, rfl, a, rfl, ⟨_, ha1⟩, fun D2 hD2 => lc_ref ha1 hv1 (by omega) hD2 (fun _ => true) (fun x v H => ∃ t, v = .ref t ∧ SqT K H t [.int x.m, .str (if x.m = m then u else x.w), .int x.p]) (fun H H' x v k ⟨t, e, h⟩ => ⟨t, e, k.t _ _ h⟩) (fun x t H2 Y N hx sm2 ht h => ?_) (fun H2 acc2 sm2 hL2 hA2 => ?_)⟩
    · rw [show wipe _ _ = [some (.ref a), some (.ref da), some (.ref D), none, none] from rfl]
      rw [if_pos rfl] at h
      have hd2 := sm2.seqT hd1
      refine ⟨rfl, ?_⟩
      refine ⟨_, rfl, t, _, _, _, rfl, rfl, ht, atI_nat (j := 0) rfl, _, rfl, t, _, _, _, rfl, rfl, ht, atI_nat (j := 1) rfl, _, rfl, da, _, _, _, rfl, rfl, hd2, atI_nat (j := 2) rfl, z2, fun l nl => ?_⟩
      have s3 := same_upd (H := H2) (o := .lst [.str x.w, .str u]) nl
      have ht3 := s3.seqT ht
      have hd3 := s3.seqT hd2
      refine ⟨_, rfl, t, _, _, _, rfl, rfl, ht3, atI_nat (j := 0) rfl, _, rfl, da, _, _, _, rfl, rfl, hd3, atI_nat (j := 1) rfl, rfl, .inr ⟨_, rfl, l, _, _, .str (if x.m = m then u else x.w), rfl, rfl, .inl (.inl upd_same), ?_, ?_⟩⟩
      · by_cases c : x.m = m
        · rw [if_pos c, if_pos (decide_eq_true (congrArg V.int c))]
          exact atI_nat (j := 1) rfl
        · rw [if_neg c, if_neg (by simp [c])]
          exact atI_nat (j := 0) rfl
      · refine ⟨_, rfl, t, _, _, _, rfl, rfl, ht3, atI_nat (j := 2) rfl, z3, fun q nq => ?_⟩
        exact h _ _ (s3.trans (same_upd nq)) ⟨q, rfl, .inl (.inl upd_same)⟩
    · rw [List.filter_eq_self.mpr (fun _ _ => rfl)] at hA2
      exact q H2 D2 (sm.trans sm2) ⟨acc2, .inl (.inl hL2), RelL.rows (fun x : RS => ⟨x.m, if x.m = m then u else x.w, x.p⟩) hA2⟩
  | add m u p b =>
    refine ⟨_, rfl, da, _, _, _, rfl, rfl, hd1, atI_nat (j := 0) rfl, rfl, _, rfl, itF (by decide +kernel) ?_⟩
    refine ⟨_, rfl, da, _, _, _, rfl, rfl, hd1, atI_nat (j := 0) rfl, rfl, _, rfl, itT (by decide +kernel) ?_⟩
    refine ⟨_, rfl, _, rfl, da, _, _, _, rfl, rfl, hd1, atI_nat (j := 1) rfl, _, rfl, da, _, _, _, rfl, rfl, hd1, atI_nat (j := 2) rfl, _, rfl, da, _, _, _, rfl, rfl, hd1, atI_nat (j := 3) rfl, z3, fun t nt => ?_⟩
    have s2 := same_upd (H := H1) (o := .tup [.int m, .str u, .int p]) nt
    refine ⟨_, rfl, da, _, _, _, rfl, rfl, (s2.seqT hd1), atI_nat (j := 4) rfl, D, t, less fl m, ⟨m, u, p⟩, b, rfl, ⟨acc, s2.seq hD1, hA'.mono s2.kp⟩, .inl (.inl upd_same), by have : (less fl m).length ≤ 800 := hll; omega, fun H3 c s3 hc => ?_⟩
    exact q H3 c ((sm.trans s2).trans s3) hc
  | drop m =>
    refine ⟨_, rfl, da, _, _, _, rfl, rfl, hd1, atI_nat (j := 0) rfl, rfl, _, rfl, itF (by decide +kernel) ?_⟩
    refine ⟨_, rfl, da, _, _, _, rfl, rfl, hd1, atI_nat (j := 0) rfl, rfl, _, rfl, itF (by decide +kernel) ?_⟩
    refine ⟨_, rfl, da, _, _, _, rfl, rfl, hd1, atI_nat (j := 0) rfl, rfl, _, rfl, itF (by decide +kernel) ?_⟩
    exact ⟨_, rfl, q H1 D sm ⟨acc, hD1, hA'⟩⟩
  | move m p b =>
    refine ⟨_, rfl, da, _, _, _, rfl, rfl, hd1, atI_nat (j := 0) rfl, rfl, _, rfl, itF (by decide +kernel) ?_⟩
    refine ⟨_, rfl, da, _, _, _, rfl, rfl, hd1, atI_nat (j := 0) rfl, rfl, _, rfl, itF (by decide +kernel) ?_⟩
    refine ⟨_, rfl, da, _, _, _, rfl, rfl, hd1, atI_nat (j := 0) rfl, rfl, _, rfl, itT (by decide +kernel) ?_⟩
    have hm : m ∈ fl.map (fun y : RS => y.m) := hmem.resolve_right fun ⟨_, _, _, _, e⟩ => by cases e
    refine ⟨_, rfl, a, rfl, ⟨_, ha1⟩, fun D2 hD2 => lc_rows ha1 hv1 (by omega) hD2 (fun x => decide (x.m = m)) (fun x => .str x.w) (fun x t H2 Y N hx sm2 ht h => ?_) (fun H2 sm2 hL2 => ?_)⟩
    · rw [show wipe _ _ = [some (.ref a), some (.ref da), some (.ref D), none, none] from rfl]
      have hd2 := sm2.seqT hd1
      refine ⟨rfl, ⟨_, rfl, t, _, _, _, rfl, rfl, ht, atI_nat (j := 0) rfl, _, rfl, da, _, _, _, rfl, rfl, hd2, atI_nat (j := 1) rfl, rfl, _, rfl, ?_⟩⟩
      by_cases c : x.m = m
      · rw [if_pos (by simp [c])] at h
        exact itT (by simp [c]) ⟨_, rfl, t, _, _, _, rfl, rfl, ht, atI_nat (j := 1) rfl, h⟩
      · rw [if_neg (by simp [c])] at h
        exact itF (by simp [c]) h
    cases ef : fl.find? (fun x : RS => decide (x.m = m)) with
    | none =>
      obtain ⟨y, hy1, hy2⟩ := List.mem_map.mp hm
      exact absurd hy2 (by simpa using List.find?_eq_none.mp ef y hy1)
    | some x =>
      obtain ⟨tl, etl⟩ := List.head?_eq_some_iff.mp ((List.head?_filter (p := fun x : RS => decide (x.m = m)) (l := fl)).trans ef)
      rw [etl, List.map_cons] at hL2
      have hd2 := sm2.seqT hd1
      refine ⟨_, rfl, _, rfl, da, _, _, _, rfl, rfl, hd2, atI_nat (j := 1) rfl, _, rfl, D2, _, _, _, rfl, rfl, .inl (.inl hL2), atI_nat (j := 0) rfl, _, rfl, da, _, _, _, rfl, rfl, hd2, atI_nat (j := 2) rfl, z3, fun t nt => ?_⟩
      have s3 := same_upd (H := H2) (o := .tup [.int m, .str x.w, .int p]) nt
      refine ⟨_, rfl, da, _, _, _, rfl, rfl, (s3.seqT hd2), atI_nat (j := 3) rfl, D, t, less fl m, ⟨m, x.w, p⟩, b, rfl, ⟨acc, s3.seq (sm2.seq hD1), hA'.mono (sm2.kp.trans s3.kp)⟩, .inl (.inl upd_same), by have : (less fl m).length ≤ 800 := hll; omega, fun H4 c s4 hc => ?_⟩
      refine q H4 c (((sm.trans sm2).trans s3).trans s4) ?_
      have e : done fl (.move m p b) = putL (less fl m) ⟨m, x.w, p⟩ b := by simp only [done, ef]
      rw [e]
      exact hc
end
end Gf
set_option Elab.async false
set_option linter.all false
set_option maxRecDepth 100000
set_option maxHeartbeats 4000000
namespace Gf
open PySem PySem.Spec PyProof.Rows L2
theorem mr_fun {fl : List RS} : ∀ (g h : FS) (rows : List RS), MR fl g rows → MR fl h rows → g = h
  | .nil, .nil, _, _, _ => rfl
  | .nil, .cons _ _ _ _, _, a, ⟨x, rest, e, _⟩ => by rw [show _ = [] from a] at e; cases e
  | .cons _ _ _ _, .nil, _, ⟨x, rest, e, _⟩, b => by rw [show _ = [] from b] at e; cases e
  | .cons m u k r, .cons m' u' k' r', _, ⟨x, rest, e, e1, e2, h1, h2⟩, ⟨x', rest', e', e1', e2', h1', h2'⟩ => by
    rw [e] at e'
    obtain ⟨rfl, rfl⟩ := List.cons.inj e'
    subst e1 e2 e1' e2'
    rw [mr_fun k k' _ h1 h1', mr_fun r r' _ h2 h2']
theorem mr_mem {fl : List RS} : ∀ (g : FS) (rows : List RS), MR fl g rows → ∀ x ∈ rows, ∃ k, MR fl k (kids fl x.m) ∧ depth k + 1 ≤ depth g
  | .nil, _, h, x, hx => by rw [show _ = [] from h] at hx; cases hx
  | .cons m u k r, _, ⟨y, rest, e, e1, e2, h1, h2⟩, x, hx => by
    rw [e] at hx
    rcases List.mem_cons.mp hx with z | z
    · rw [z, e1]
      exact ⟨k, h1, by rw [depth_cons]; omega⟩
    · obtain ⟨k', q1, q2⟩ := mr_mem r rest h2 x z
      exact ⟨k', q1, by rw [depth_cons]; omega⟩
section
variable {P : Program} {w : World} {K : PySem.W.Frag} {mg : Str → Option Value} {base : Heap} {lt mt : Tok} {H H1 H2 H' : Hp} {sc st : Addr} {ns : List Int}
def SpR (K : PySem.W.Frag) (fl : List RS) (x : RS) (v : V) (H : Hp) : Prop := ∃ k p q, MR fl k (kids fl x.m) ∧ v = .ref p ∧ SqT K H p [.int x.m, .str x.w, .ref q] ∧ FoA K H k q
theorem RelL.spots {fl : List RS} : ∀ (g : FS) (rows : List RS) (acc : List V), MR fl g rows → RelL (SpR K fl) H rows acc → SpA K H g acc
  | .nil, _, _, h, r => by rw [show _ = [] from h] at r; exact r
  | .cons m u k r, _, _, ⟨y, rest, e, e1, e2, h1, h2⟩, hr => by
    subst e e1 e2
    obtain ⟨v, ar, ea, ⟨k', p, q, g1, g2, g3, ks, g4, g5⟩, hr2⟩ := hr
    rw [ea, g2]
    rw [mr_fun k' k _ g1 h1] at g5
    exact ⟨p, q, ks, ar, rfl, g3, g4, g5, RelL.spots r rest ar h2 hr2⟩
theorem sc_plot : FnScope ["_law_flat_here", "_law_parent", "_law_row"] ["_law_flat_here", "_law_parent"] (defScope s_plot) := ⟨rfl, rfl, rfl, by decide +kernel, rfl, by decide +kernel, by decide +kernel⟩
def sp_lplot (K : PySem.W.Frag) (n : Nat) : Sp := fun vs H Q _ => ∃ (a : Addr) (fl : List RS) (g : FS) (p : Int), vs = [.ref a, .int p] ∧ RoL K H fl a ∧ MR fl g (kids fl p) ∧ depth g < n ∧ fl.length ≤ 900 ∧ ∀ H' c, Same H H' → FoA K H' g c → Q (.ref c) H'
theorem ok_lplot (D : Df K mg "_law_plot" s_plot ["_law_flat_here", "_law_parent"]) (B : Bi mg) : ∀ n : Nat, Pr P w K mg base CX0 n "_law_plot" ["_law_flat_here", "_law_parent"] (sp_lplot K n)
  | 0 => D.none fun vs H Q E ⟨a, fl, g, p, _, _, _, h, _⟩ => absurd h (Nat.not_lt_zero _)
  | n + 1 => by
    have G_plot := ok_lplot D B n
    refine D.ok sc_plot (fun vs H Q E h => ?_) (fun fa cdv A outer s H vs Q E hr h => ?_)
    · obtain ⟨a, fl, g, p, rfl, _⟩ := h; rfl
    obtain ⟨a, fl, g, p, rfl, ⟨vs, ha, hv⟩, hM, hdp, hl, q⟩ := h
    refine ⟨_, (pss_one (ps_ret (pe_callTy call_tuple_of (by rfl) B.ttuple (by decide +kernel) (pa_cons (pe_lc (own := [("_law_row", 2)]) (g := gName 2)  (te := tTup (tCons (tOp (rIxT K) (tVar 2) (tC (.int 0))) (tCons (tOp (rIxT K) (tVar 2) (tC (.int 1))) (tCons (tCall (sp_lplot K n) [] E0 (tCons (tVar 0) (tCons (tOp (rIxT K) (tVar 2) (tC (.int 0))) tNil))) tNil)))) (tt := tTest (tOp rEq (tOp (rIxT K) (tVar 2) (tC (.int 2))) (tVar 1))) rfl sc_plot.nd (pi_list (pv 0)) (blkOk_by (N := ["_law_flat_here", "_law_parent", "_law_row"]) (sc := defScope s_plot) (by decide +kernel)) (fun _ _ _ _ _ => pg_name (i := 2) sc_plot.nd rfl (Or.inl rfl)) (fun _ _ _ _ _ => pts_one (pt_cmpR op_eq (pe_ix ix_tup (pv 2) pe_int (fun _ _ => rfl)) (pv 1) (nomark _))) (fun _ _ _ _ _ => (pe_tup (pa_cons (pe_ix ix_tup (pv 2) pe_int (fun _ _ => rfl)) (pa_cons (pe_ix ix_tup (pv 2) pe_int (fun _ _ => rfl)) (pa_cons (pe_own G_plot (hr.mono (by first | decide | omega)) (by rfl) pass0 (pa_cons (pv 0) (pa_cons (pe_ix ix_tup (pv 2) pe_int (fun _ _ => rfl)) pa_nil))) pa_nil)))))) pa_nil)))), ?_⟩
    have z3 : 3 ≤ sizeLine := Nat.le_of_lt (small1000 (by decide))
    refine ⟨_, rfl, a, rfl, ⟨_, ha⟩, fun D2 hD2 => lc_ref ha hv (by omega) hD2 (fun x => decide (x.p = p)) (SpR K fl) (fun H H' x v k ⟨k0, p, q, g1, g2, g3, g4⟩ => ⟨k0, p, q, g1, g2, k.t _ _ g3, g4.mono k⟩) (fun x t H2 Y N hx sm2 ht h => ?_) (fun H2 acc sm2 hL2 hA2 => ?_)⟩
    · rw [show wipe _ _ = [some (.ref a), some (.int p), none] from rfl]
      refine ⟨rfl, ⟨_, rfl, t, _, _, _, rfl, rfl, ht, atI_nat (j := 2) rfl, _, rfl, rfl, _, rfl, ?_⟩⟩
      by_cases c : x.p = p
      rotate_left
      · rw [if_neg (by simp [c])] at h
        exact itF (by simp [c]) h
      rw [if_pos (by simp [c])] at h
      refine itT (by simp [c]) ?_
      obtain ⟨k, hk1, hk2⟩ := mr_mem g _ hM x (kids_mem.mpr ⟨hx, c⟩)
      refine ⟨_, rfl, t, _, _, _, rfl, rfl, ht, atI_nat (j := 0) rfl, _, rfl, t, _, _, _, rfl, rfl, ht, atI_nat (j := 1) rfl, _, rfl, _, rfl, t, _, _, _, rfl, rfl, ht, atI_nat (j := 0) rfl, a, fl, k, x.m, rfl, ⟨vs, sm2.seq ha, hv.mono sm2.kp⟩, hk1, by omega, hl, fun H3 c3 s3 hc3 => ?_⟩
      refine ⟨z3, fun q2 nq => ?_⟩
      have s4 := same_upd (H := H3) (o := .tup [.int x.m, .str x.w, .ref c3]) nq
      exact h _ _ (s3.trans s4) ⟨k, q2, c3, hk1, rfl, .inl (.inl upd_same), hc3.mono s4.kp⟩
    · refine ⟨D2, acc, rfl, .inl ⟨.inl (.inl hL2), fun l nl => ?_⟩⟩
      have s3 := same_upd (H := H2) (o := .tup acc) nl
      refine q _ l (sm2.trans s3) ⟨acc, .inl (.inl upd_same), ?_⟩
      exact (RelL.spots g _ acc hM hA2).mono s3.kp
theorem sc_ran : FnScope ["_law_flat_here", "_law_deeds", "_law_k"] ["_law_flat_here", "_law_deeds"] (defScope s_ran) := ⟨rfl, rfl, rfl, by decide +kernel, rfl, by decide +kernel, by decide +kernel⟩
def sp_lran (K : PySem.W.Frag) : Sp := fun vs H Q _ => ∃ (a p : Addr) (fl : List RS) (f : FS) (ds : List DS) (xs : List V), vs = [.ref a, .ref p] ∧ RoL K H fl a ∧ SqL K H p xs ∧ DsA K H ds xs ∧ ds.length = 2 ∧ Rep fl f ∧ fl.length ≤ 100 ∧
  (∀ g gl H' c l, runF f ds = some g → Same H H' → Rep gl g → RoL K H' gl c → gl.length ≤ fl.length + 2 → H' l = some (.lst [.ref c, .int 2]) → Q (.ref l) H') ∧
  (runF f ds = none → ∀ H' c l (k : Int), k < 2 → Same H H' → H' l = some (.lst [.ref c, .int k]) → Q (.ref l) H')
theorem ok_lran (D : Df K mg "_law_ran" s_ran ["_law_flat_here", "_law_deeds"]) (B : Bi mg) (G_reason : Pr P w K mg base CX0 2 "_law_reason" ["_law_flat_here", "_law_deed_here"] (sp_lreason K)) (G_done : Pr P w K mg base CX0 2 "_law_done" ["_law_flat_here", "_law_deed_here"] (sp_ldone K)) :
    Pr P w K mg base CX0 3 "_law_ran" ["_law_flat_here", "_law_deeds"] (sp_lran K) := by
  refine D.ok sc_ran (fun vs H Q E h => ?_) (fun fa cdv A outer s H vs Q E hr h => ?_)
  · obtain ⟨a, p, fl, f, ds, xs, rfl, _⟩ := h; rfl
  obtain ⟨a, p, fl, f, ds, xs, rfl, hfl, hp, hds, hd2, hR, hl, qs, qn⟩ := h
  have hxl := hds.len
  rw [hd2] at hxl
  have z2 : 2 ≤ sizeLine := Nat.le_of_lt (small1000 (by decide))
  refine ⟨_, (pss_cons (ps_for PassesOwn.never rfl (pi_range1 (by rfl) B.range (pa_cons (pe_callB call_len_seq (by rfl) B.len PySem.boot_len (pa_cons (pv 1) pa_nil)) pa_nil)) (pg_name (i := 2) sc_ran.nd rfl (Or.inl rfl)) (pss_cons (ps_if (pt_cmpR op_notN (pe_own G_reason (hr.mono (by first | decide | omega)) (by rfl) pass0 (pa_cons (pv 0) (pa_cons (pe_ix ix_list (pv 1) (pv 2) (fun _ _ => rfl)) pa_nil))) pe_non (nomark _)) (pss_one (ps_ret (pe_lst (pa_cons (pv 0) (pa_cons (pv 2) pa_nil))))) pss_nil)
    (pss_one (ps_set (i := 0) sc_ran.nd rfl (Or.inl rfl) (pe_own G_done (hr.mono (by first | decide | omega)) (by rfl) pass0 (pa_cons (pv 0) (pa_cons (pe_ix ix_list (pv 1) (pv 2) (fun _ _ => rfl)) pa_nil)))))))
    (pss_one (ps_ret (pe_lst (pa_cons (pv 0) (pa_cons (pe_callB call_len_seq (by rfl) B.len PySem.boot_len (pa_cons (pv 1) pa_nil)) pa_nil)))))), ?_⟩
  refine ⟨_, rfl, p, _, rfl, .inl hp, _, rfl, by omega, by omega, for_range (fun i σ H' => i ≤ 2 ∧ ∃ (c : Addr) (gl : List RS) (g : FS) (s2 : Option V), σ = [some (.ref c), some (.ref p), s2] ∧ Same H H' ∧ RoL K H' gl c ∧ Rep gl g ∧ gl.length ≤ fl.length + i ∧ runF f ds = runF g (ds.drop i)) ⟨by omega, a, fl, f, none, rfl, Same.refl H, hfl, hR, by omega, rfl⟩ (fun i σ H' hi z => ?_) (fun σ H' z => ?_)⟩
  · obtain ⟨hi2, c, gl, g, s2, rfl, sm, hc, hRg, hgl, hrun⟩ := z
    rw [hxl] at hi
    have hi' : i < 2 := hi
    have h00 : (0 : Int) + (i : Nat) = (i : Nat) := by omega
    rw [h00]
    have hat := List.getElem?_eq_getElem (l := xs) (i := i) (by omega)
    obtain ⟨d, hd1, ⟨da, eda, hda⟩, hdo⟩ := hds.at hat
    refine ⟨_, rfl, _, rfl, _, rfl, p, _, _, _, rfl, rfl, sm.seq hp, atI_nat hat, c, da, gl, g, d, by rw [eda]; rfl, hc, sm.seqT hda, hRg, hdo, by omega, fun hL H3 s3 => ?_, fun hL z H3 s3 => ?_⟩
    · refine ⟨rfl, _, rfl, itF (by simp) ?_⟩
      have hpo := (hRg.ok d).mp hL
      refine ⟨_, rfl, _, rfl, _, rfl, p, _, _, _, rfl, rfl, (sm.trans s3).seq hp, atI_nat hat, c, da, gl, d, by rw [eda]; rfl, hc.same s3, (sm.trans s3).seqT hda, by omega, ?_, fun H4 c4 s4 hc4 => ?_⟩
      · cases d with
        | add m u p b => exact .inr ⟨_, _, _, _, rfl⟩
        | drop m => exact .inl hL.1
        | move m p b => exact .inl hL.1
        | word m u => exact .inl hL
      · have hdl := done_len gl d
        refine ⟨by omega, c4, done gl d, behind g d, _, rfl, (sm.trans s3).trans s4, hc4, hRg.step hdo.pos hpo, by omega, ?_⟩
        rw [hrun, hd1, runF_pos _ hpo]
    · refine ⟨rfl, _, rfl, itT (by simp) ?_⟩
      refine ⟨_, rfl, _, rfl, z2, fun l nl => ?_⟩
      have hno : ¬ POk g d := fun y => hL ((hRg.ok d).mpr y)
      exact qn (by rw [hrun, hd1, runF_neg _ hno]) _ c l _ (by omega) ((sm.trans s3).trans (same_upd nl)) upd_same
  · obtain ⟨hi2, c, gl, g, s2, rfl, sm, hc, hRg, hgl, hrun⟩ := z
    rw [hxl] at hgl hrun
    refine ⟨_, rfl, _, rfl, p, _, rfl, .inl (sm.seq hp), z2, fun l nl => ?_⟩
    have s3 := same_upd (H := H') (o := .lst [.ref c, .int (xs.length : Nat)]) nl
    refine qs g gl _ c l ?_ (sm.trans s3) hRg (hc.same s3) hgl ?_
    · rw [hrun, List.drop_eq_nil_of_le (by show ds.length ≤ 2; omega)]
      rfl
    · rw [upd_same, hxl]
      rfl
end
end Gf
set_option Elab.async false
set_option linter.all false
set_option maxRecDepth 100000
set_option maxHeartbeats 4000000
namespace Gf
open PySem PySem.Spec PyProof.Rows L2
section
variable {P : Program} {w : World} {K : PySem.W.Frag} {mg : Str → Option Value} {base : Heap} {lt mt : Tok} {H H1 H2 H' : Hp} {sc st : Addr} {ns : List Int}
theorem sc_both : FnScope ["_law_flat_here", "_law_d", "_law_e", "_law_told"] ["_law_flat_here", "_law_d", "_law_e"] (defScope s_both) := ⟨rfl, rfl, rfl, by decide +kernel, rfl, by decide +kernel, by decide +kernel⟩
def sp_lboth (K : PySem.W.Frag) : Sp := fun vs H Q _ => ∃ (a : Addr) (fl : List RS) (f : FS) (x y : V) (d e : DS), vs = [.ref a, x, y] ∧ RoL K H fl a ∧ DeA K H d x ∧ DeA K H e y ∧ deOk d ∧ deOk e ∧ Rep fl f ∧ fl.length ≤ 12 ∧
  ∀ v H', Same H H' → ReA K H' f [d, e] v → Q v H'
theorem ok_lboth (D : Df K mg "_law_both" s_both ["_law_flat_here", "_law_d", "_law_e"]) (G_ran : Pr P w K mg base CX0 3 "_law_ran" ["_law_flat_here", "_law_deeds"] (sp_lran K)) (G_plot : Pr P w K mg base CX0 16 "_law_plot" ["_law_flat_here", "_law_parent"] (sp_lplot K 16)) : Pr P w K mg base CX0 17 "_law_both" ["_law_flat_here", "_law_d", "_law_e"] (sp_lboth K) := by
  refine D.ok sc_both (fun vs H Q E h => ?_) (fun fa cdv A outer s H vs Q E hr h => ?_)
  · obtain ⟨a, fl, f, x, y, d, e, rfl, _⟩ := h; rfl
  obtain ⟨a, fl, f, x, y, d, e, rfl, hfl, hd, he, hdo, heo, hR, hl, q⟩ := h
  refine ⟨_, (pss_cons (ps_set (i := 3) sc_both.nd rfl (Or.inl rfl) (pe_own G_ran (hr.mono (by first | decide | omega)) (by rfl) pass0 (pa_cons (pv 0) (pa_cons (pe_lst (pa_cons (pv 1) (pa_cons (pv 2) pa_nil))) pa_nil))))
    (pss_cons (ps_if (pt_cmpR op_lt (pe_ix ix_list (pv 3) pe_int (fun _ _ => rfl)) pe_int (nomark _)) (pss_one (ps_ret pe_non)) pss_nil)
    (pss_one (ps_ret (pe_own G_plot (hr.mono (by first | decide | omega)) (by rfl) pass0 (pa_cons (pe_ix ix_list (pv 3) pe_int (fun _ _ => rfl)) (pa_cons pe_int pa_nil))))))), ?_⟩
  have z2 : 2 ≤ sizeLine := Nat.le_of_lt (small1000 (by decide))
  refine ⟨_, rfl, _, rfl, _, rfl, z2, fun l nl => ?_⟩
  have s1 := same_upd (H := H) (o := .lst [x, y]) nl
  refine ⟨a, l, fl, f, [d, e], [x, y], rfl, hfl.same s1, .inl (.inl upd_same), ⟨_, _, rfl, hd.mono s1.kp, hdo, _, _, rfl, he.mono s1.kp, heo, rfl⟩, rfl, hR, by omega, fun g gl H3 c l3 hrun s3 hRg hc hgl hl3 => ?_, fun hrun H3 c l3 k hk s3 hl3 => ?_⟩
  · refine ⟨_, rfl, l3, _, _, _, rfl, rfl, .inl (.inl hl3), atI_nat (j := 1) rfl, _, _, rfl, rfl, _, rfl, itF (by decide +kernel) ?_⟩
    have h1 := depth_le g
    have h2 := hRg.len
    refine ⟨_, rfl, l3, _, _, _, rfl, rfl, .inl (.inl hl3), atI_nat (j := 0) rfl, c, gl, g, 0, rfl, hc, hRg.mt, by omega, by omega, fun H4 c4 s4 hc4 => ?_⟩
    exact q _ H4 ((s1.trans s3).trans s4) (.inl ⟨g, c4, rfl, hc4, hrun⟩)
  · refine ⟨_, rfl, l3, _, _, _, rfl, rfl, .inl (.inl hl3), atI_nat (j := 1) rfl, _, _, rfl, rfl, _, rfl, itT (decide_eq_true hk) ?_⟩
    exact q _ H3 (s1.trans s3) (.inr ⟨rfl, hrun⟩)
theorem sc_free : FnScope ["_law_flat_here", "_law_d", "_law_e", "_law_first", "_law_other"] ["_law_flat_here", "_law_d", "_law_e"] (defScope s_free) := ⟨rfl, rfl, rfl, by decide +kernel, rfl, by decide +kernel, by decide +kernel⟩
def sp_lfree (K : PySem.W.Frag) : Sp := fun vs H Q _ => ∃ (a : Addr) (fl : List RS) (f : FS) (x y : V) (d e : DS), vs = [.ref a, x, y] ∧ RoL K H fl a ∧ DeA K H d x ∧ DeA K H e y ∧ deOk d ∧ deOk e ∧ Rep fl f ∧ fl.length ≤ 12 ∧ Good 12 f ∧
  ∀ H' b, Same H H' → (b = true ↔ ∃ g, Free f d e g) → Q (.bl b) H'
theorem ok_lfree (D : Df K mg "_law_free" s_free ["_law_flat_here", "_law_d", "_law_e"]) (G_both : Pr P w K mg base CX0 17 "_law_both" ["_law_flat_here", "_law_d", "_law_e"] (sp_lboth K)) : Pr P w K mg base CX0 18 "_law_free" ["_law_flat_here", "_law_d", "_law_e"] (sp_lfree K) := by
  refine D.ok sc_free (fun vs H Q E h => ?_) (fun fa cdv A outer s H vs Q E hr h => ?_)
  · obtain ⟨a, fl, f, x, y, d, e, rfl, _⟩ := h; rfl
  obtain ⟨a, fl, f, x, y, d, e, rfl, hfl, hd, he, hdo, heo, hR, hl, hg, q⟩ := h
  refine ⟨_, (pss_cons (ps_set (i := 3) sc_free.nd rfl (Or.inl rfl) (pe_own G_both (hr.mono (by first | decide | omega)) (by rfl) pass0 (pa_cons (pv 0) (pa_cons (pv 1) (pa_cons (pv 2) pa_nil)))))
    (pss_cons (ps_set (i := 4) sc_free.nd rfl (Or.inl rfl) (pe_own G_both (hr.mono (by first | decide | omega)) (by rfl) pass0 (pa_cons (pv 0) (pa_cons (pv 2) (pa_cons (pv 1) pa_nil)))))
    (pss_one (ps_ret (pe_and (pe_cmpR op_notN (pv 3) pe_non (nomark _)) (pe_and (pe_cmpR op_notN (pv 4) pe_non (nomark _)) (pe_one (pe_cmpR (op_eqD hr.units) (pv 3) (pv 4) (nomark _))))))))), ?_⟩
  refine ⟨_, rfl, _, rfl, _, rfl, a, fl, f, x, y, d, e, rfl, hfl, hd, he, hdo, heo, hR, hl, fun v1 H1 s1 h1 => ?_⟩
  refine ⟨_, rfl, _, rfl, _, rfl, a, fl, f, y, x, e, d, rfl, hfl.same s1, he.mono s1.kp, hd.mono s1.kp, heo, hdo, hR, hl, fun v2 H2 s2 h2 => ?_⟩
  have sA := s1.trans s2
  rcases h1 with ⟨g1, c1, rfl, f1, r1⟩ | ⟨rfl, r1⟩
  · rcases h2 with ⟨g2, c2, rfl, f2, r2⟩ | ⟨rfl, r2⟩
    · have sh1 := (runF_good (ds := [d, e]) hg (by intro z hz; simp at hz; rcases hz with rfl | rfl <;> assumption) r1).shaped (show 14 ≤ 30 by decide)
      have sh2 := (runF_good (ds := [e, d]) hg (by intro z hz; simp at hz; rcases hz with rfl | rfl <;> assumption) r2).shaped (show 14 ≤ 30 by decide)
      refine ⟨_, rfl, rfl, _, rfl, itT (by simp) ⟨_, rfl, rfl, _, rfl, itT (by simp) ?_⟩⟩
      refine ⟨_, rfl, _, rfl, _, _, (f1.mono s2.kp).dp, f2.dp, sh1, sh2, ?_⟩
      refine q H2 _ sA ?_
      rw [PyData.eqv, eqv_daL]
      constructor
      · intro z
        exact ⟨g1, r1, by rw [z]; exact r2⟩
      · intro ⟨g, z1, z2⟩
        exact (Option.some.inj (r1.symm.trans z1)).trans (Option.some.inj (r2.symm.trans z2)).symm
    · refine ⟨_, rfl, rfl, _, rfl, itT (by simp) ⟨_, rfl, rfl, _, rfl, itF (by simp) ?_⟩⟩
      exact q H2 _ sA ⟨fun z => (Bool.noConfusion z), fun ⟨g, z1, z2⟩ => by rw [z2] at r2; cases r2⟩
  · refine ⟨_, rfl, rfl, _, rfl, itF (by simp) ?_⟩
    exact q H2 _ sA ⟨fun z => (Bool.noConfusion z), fun ⟨g, z1, z2⟩ => by rw [z1] at r1; cases r1⟩
end
end Gf
set_option Elab.async false
set_option linter.all false
set_option maxRecDepth 100000
set_option maxHeartbeats 4000000
namespace Gf
open PySem PySem.Spec PyProof.Rows L2
section
variable {P : Program} {w : World} {K : PySem.W.Frag} {mg : Str → Option Value} {base : Heap} {lt mt : Tok} {H H1 H2 H' : Hp} {sc st : Addr} {ns : List Int}
theorem Ev.lst (e : Ev K H sc st ns) (h : Ex st H H') {a : Addr} {xs : List V} (q : H a = some (.lst xs)) : H' a = some (.lst xs) := by
  obtain ⟨r, i, c, h1, h2⟩ := e.d
  exact h.k _ _ (ne_of q h1 (by intro z; cases z)) q
/-- a def of the text whose comprehensions read a row under the same name -/
theorem sc_flat : FnScope ["_law_script", "_law_state", "_law_most", "_law_flat_here", "_law_k", "_law_taken", "_law_row", "_law_parent", "_law_behind"] ["_law_script", "_law_state", "_law_most"] (defScope s_flat) := ⟨rfl, rfl, rfl, by decide +kernel, rfl, by decide +kernel, by decide +kernel⟩
def sp_lflat (K : PySem.W.Frag) : Sp := fun vs H Q _ => ∃ (sc st : Addr) (ns : List Int), vs = [.ref sc, .ref st, .int 8] ∧ Ev K H sc st ns ∧ ∀ H' c fl f, Ex st H H' → Ev K H' sc st ns → RoL K H' fl c → Rep fl f → Good 8 f → Q (.ref c) H'
theorem ok_lflat (D : Df K mg "_law_flat" s_flat ["_law_script", "_law_state", "_law_most"]) (B : Bi mg) (G_draw : Pr P w K mg base CX0 2 "_law_draw" ["_law_script", "_law_state", "_law_many"] (sp_draw K)) (G_level : Pr P w K mg base CX0 1 "_law_level" ["_law_flat_here", "_law_mark_here"] (sp_level K))
    (G_put : Pr P w K mg base CX0 1 "_law_put" ["_law_flat_here", "_law_row", "_law_behind"] (sp_lput K)) (G_fresh : Pr P w K mg base CX0 4 "_law_fresh" ["_law_script", "_law_state", "_law_taken"] (sp_fresh K)) (G_word : Pr P w K mg base CX0 3 "_law_word" ["_law_script", "_law_state"] (sp_lword K)) :
    Pr P w K mg base CX0 5 "_law_flat" ["_law_script", "_law_state", "_law_most"] (sp_lflat K) := by
  refine D.ok sc_flat (fun vs H Q E h => ?_) (fun fa cdv A outer s H vs Q E hr h => ?_)
  · obtain ⟨a, b, ns, rfl, _⟩ := h; rfl
  obtain ⟨sc, st, ns, rfl, he, k⟩ := h
  refine ⟨_, (pss_cons (ps_set (i := 3) sc_flat.nd rfl (Or.inl rfl) (pe_lst pa_nil))
    (pss_cons (ps_for PassesOwn.never rfl (pi_range1 (by rfl) B.range (pa_cons (pe_own G_draw (hr.mono (by first | decide | omega)) (by rfl) pass0 (pa_cons (pv 0) (pa_cons (pv 1) (pa_cons (pe_op op_add (pv 2) pe_int) pa_nil)))) pa_nil)) (pg_name (i := 4) sc_flat.nd rfl (Or.inl rfl)) (pss_cons (ps_setLc (i := 5) (own := [("_law_row", 6)]) (g := gName 6) (tt := tYes) (te := tOp (rIxT K) (tVar 6) (tC (.int 0))) rfl sc_flat.nd rfl rfl (sw_true rfl rfl rfl (by decide +kernel)) (pi_list (pv 3)) (blkOk_by (N := ["_law_script", "_law_state", "_law_most", "_law_flat_here", "_law_k", "_law_taken", "_law_row", "_law_parent", "_law_behind"]) (sc := defScope s_flat) (by decide +kernel)) (fun _ _ _ _ _ => pg_name (i := 6) sc_flat.nd rfl (Or.inl rfl)) (fun _ _ _ _ _ => pts_nil) (fun _ _ _ _ _ => (pe_ix ix_tup (pv 6) pe_int (fun _ _ => rfl))))
    (pss_cons (ps_set (i := 7) sc_flat.nd rfl (Or.inr rfl) pe_int)
    (pss_cons (ps_if (PW.pt (pw_and (pt_cmpR op_gt (pe_callB call_len_seq (by rfl) B.len PySem.boot_len (pa_cons (pv 3) pa_nil)) pe_int (nomark _)) (pw_and1 (pt_cmpR op_gt (pe_own G_draw (hr.mono (by first | decide | omega)) (by rfl) pass0 (pa_cons (pv 0) (pa_cons (pv 1) (pa_cons pe_int pa_nil)))) pe_int (nomark _))))) (pss_one (ps_set (i := 7) sc_flat.nd rfl (Or.inr rfl) (pe_ix ix_list (pv 5) (pe_own G_draw (hr.mono (by first | decide | omega)) (by rfl) pass0 (pa_cons (pv 0) (pa_cons (pv 1) (pa_cons (pe_callB call_len_seq (by rfl) B.len PySem.boot_len (pa_cons (pv 5) pa_nil)) pa_nil)))) (fun _ _ => rfl)))) pss_nil)
    (pss_cons (ps_if (pt_cmpR op_gt (pe_own G_level (hr.mono (by first | decide | omega)) (by rfl) pass0 (pa_cons (pv 3) (pa_cons (pv 7) pa_nil))) pe_int (nomark _)) (pss_one (ps_set (i := 7) sc_flat.nd rfl (Or.inr rfl) pe_int)) pss_nil)
    (pss_cons (ps_set (i := 6) sc_flat.nd rfl (Or.inl rfl) (pe_op op_cat (pe_lst (pa_cons pe_int pa_nil)) (pe_lc (own := [("_law_row", 6)]) (g := gName 6)  (te := tOp (rIxT K) (tVar 6) (tC (.int 0))) (tt := tTest (tOp rEq (tOp (rIxT K) (tVar 6) (tC (.int 2))) (tVar 7))) rfl sc_flat.nd (pi_list (pv 3)) (blkOk_by (N := ["_law_script", "_law_state", "_law_most", "_law_flat_here", "_law_k", "_law_taken", "_law_row", "_law_parent", "_law_behind"]) (sc := defScope s_flat) (by decide +kernel)) (fun _ _ _ _ _ => pg_name (i := 6) sc_flat.nd rfl (Or.inl rfl)) (fun _ _ _ _ _ => pts_one (pt_cmpR op_eq (pe_ix ix_tup (pv 6) pe_int (fun _ _ => rfl)) (pv 7) (nomark _))) (fun _ _ _ _ _ => (pe_ix ix_tup (pv 6) pe_int (fun _ _ => rfl))))))
    (pss_cons (ps_set (i := 8) sc_flat.nd rfl (Or.inl rfl) (pe_ix ix_list (pv 6) (pe_own G_draw (hr.mono (by first | decide | omega)) (by rfl) pass0 (pa_cons (pv 0) (pa_cons (pv 1) (pa_cons (pe_callB call_len_seq (by rfl) B.len PySem.boot_len (pa_cons (pv 6) pa_nil)) pa_nil)))) (fun _ _ => rfl)))
    (pss_one (ps_set (i := 3) sc_flat.nd rfl (Or.inl rfl) (pe_own G_put (hr.mono (by first | decide | omega)) (by rfl) pass0 (pa_cons (pv 3) (pa_cons (pe_tup (pa_cons (pe_own G_fresh (hr.mono (by first | decide | omega)) (by rfl) pass0 (pa_cons (pv 0) (pa_cons (pv 1) (pa_cons (pv 5) pa_nil)))) (pa_cons (pe_own G_word (hr.mono (by first | decide | omega)) (by rfl) pass0 (pa_cons (pv 0) (pa_cons (pv 1) pa_nil))) (pa_cons (pv 7) pa_nil)))) (pa_cons (pv 8) pa_nil)))))))))))))
    (pss_one (ps_ret (pv 3))))), ?_⟩
  have z1 : 1 ≤ sizeLine := Nat.le_of_lt (small1000 (by decide))
  have z3 : 3 ≤ sizeLine := Nat.le_of_lt (small1000 (by decide))
  refine ⟨Nat.zero_le _, fun c0 n0 => ?_⟩
  have x0 : Ex st H (upd H c0 (.lst [])) := Ex.refl.new n0
  have e0 := he.same (same_upd (o := .lst []) n0)
  refine ⟨_, rfl, _, rfl, _, rfl, _, _, rfl, rfl, sc, st, ns, 9, rfl, e0, by decide, by decide, fun n H1 n1 n2 x1 e1 => ?_⟩
  refine ⟨n, rfl, by omega, by omega, for_range (fun i σ H' => ∃ (c : Addr) (fl : List RS) (f : FS) (s4 s5 s6 s7 s8 : Option V), σ = [some (.ref sc), some (.ref st), some (.int 8), some (.ref c), s4, s5, s6, s7, s8] ∧ Ex st H H' ∧ Ev K H' sc st ns ∧ RoL K H' fl c ∧ Rep fl f ∧ Good i f) ⟨c0, [], .nil, none, none, none, none, none, rfl, x0.trans x1, e1, e0.ro x1 ⟨[], .inl (.inl upd_same), rfl⟩, ⟨rfl, List.nodup_nil, (by intro m h; cases h), List.Perm.refl _, (by intro x h; cases h)⟩, ⟨Nat.zero_le _, List.nodup_nil, trivial⟩⟩ (fun i σ H' hi z => ?_) (fun σ H' z => ?_)⟩
  rotate_left
  · obtain ⟨c, fl, f, s4, s5, s6, s7, s8, rfl, x2, e2, hc, hR, hg⟩ := z
    exact ⟨_, rfl, k H' c fl f x2 e2 hc hR ⟨by have := hg.len; omega, hg.nd, hg.ok⟩⟩
  obtain ⟨c, fl, f, s4, s5, s6, s7, s8, rfl, x2, e2, ⟨vs, ha, hv⟩, hR, hg⟩ := z
  have hfl : fl.length ≤ 8 := by have := hg.len; have := hR.len; omega
  have hvl := hv.len
  -- taken
  refine ⟨_, rfl, c, rfl, ⟨_, ha⟩, fun D hD => lc_rows ha hv (by omega) hD (fun _ => true) (fun x => .int x.m) (fun x t H Y N hx sm ht h => ?_) (fun H3 s3 hL => ?_)⟩
  · rw [show wipe _ _ = [some (.ref sc), some (.ref st), some (.int 8), some (.ref c), some (.int (0 + (i : Nat))), s5, none, s7, s8] from rfl]
    rw [if_pos rfl] at h
    exact ⟨rfl, ⟨_, rfl, t, _, _, _, rfl, rfl, ht, atI_nat (j := 0) rfl, h⟩⟩
  have hM : H3 D = some (.lst ((fl.map (fun y : RS => y.m)).map V.int)) := by
    rw [hL, List.filter_eq_self.mpr (fun _ _ => rfl), List.map_map]
    rfl
  clear hL
  have x3 := x2.trans (Ex.of s3)
  have e3 := e2.same s3
  have ha3 := s3.seq ha
  have hv3 := hv.mono s3.kp
  -- the parent
  refine joinN (N := ?N) (fun σ H4 => ∃ p : Int, σ = [some (.ref sc), some (.ref st), some (.int 8), some (.ref c), some (.int (0 + (i : Nat))), some (.ref D), s6, some (.int p), s8] ∧ (p = 0 ∨ p ∈ fl.map (fun y : RS => y.m)) ∧ Ex st H3 H4 ∧ Ev K H4 sc st ns) (fun J => ?a) (fun σ H4 z => ?b)
  case a =>
    refine ⟨_, rfl, c, _, rfl, .inl ha3, _, _, rfl, rfl, _, rfl, ?_⟩
    by_cases c1 : ¬ 0 < vs.length
    · refine itF (decide_eq_false (by omega)) ?_
      refine itF rfl ?_
      exact J _ H3 ⟨0, rfl, .inl rfl, Ex.refl, e3⟩
    refine itT (decide_eq_true (by omega)) ?_
    refine ⟨_, rfl, _, rfl, sc, st, ns, 3, rfl, e3, by decide, by decide, fun q H4 q1 q2 x4 e4 => ⟨_, _, rfl, rfl, _, rfl, ?_⟩⟩
    by_cases c2 : 0 < q
    · refine itT (decide_eq_true c2) ?_
      refine ⟨_, rfl, _, rfl, _, rfl, _, rfl, D, _, rfl, .inl (.inl (.inl (e3.lst x4 hM))), sc, st, ns, _, rfl, e4, by rw [List.length_map, List.length_map]; omega, by rw [List.length_map, List.length_map]; omega, fun j H5 j1 j2 x5 e5 => ?_⟩
      obtain ⟨j, rfl⟩ := Int.eq_ofNat_of_zero_le j1
      rw [List.length_map] at j2
      have hj : j < (fl.map (fun y : RS => y.m)).length := by omega
      have hat : ((fl.map (fun y : RS => y.m)).map V.int)[j]? = some (.int ((fl.map (fun y : RS => y.m))[j]'hj)) := by rw [List.getElem?_map, List.getElem?_eq_getElem hj]; rfl
      refine ⟨D, _, _, _, rfl, rfl, .inl (.inl (e3.lst (x4.trans x5) hM)), atI_nat hat, ?_⟩
      exact J _ H5 ⟨_, rfl, .inr (List.getElem_mem _), x4.trans x5, e5⟩
    · exact itF (decide_eq_false c2) (J _ H4 ⟨0, rfl, .inl rfl, x4, e4⟩)
  obtain ⟨p0, rfl, hp0, x4, e4⟩ := z
  refine joinN (N := ?N2) (fun σ H5 => ∃ p : Int, σ = [some (.ref sc), some (.ref st), some (.int 8), some (.ref c), some (.int (0 + (i : Nat))), some (.ref D), s6, some (.int p), s8] ∧ (p = 0 ∨ p ∈ fl.map (fun y : RS => y.m)) ∧ H5 = H4) (fun J => ?a2) (fun σ H5 z => ?b2)
  case a2 =>
    refine ⟨_, rfl, _, rfl, c, fl, p0, rfl, e3.ro x4 ⟨vs, ha3, hv3⟩, by omega, fun lv => ⟨_, _, rfl, rfl, _, rfl, ?_⟩⟩
    by_cases c3 : ¬ 7 < lv
    · refine itF (decide_eq_false c3) ?_
      exact J _ H4 ⟨p0, rfl, hp0, rfl⟩
    · refine itT (decide_eq_true (Decidable.not_not.mp c3)) ?_
      exact J _ H4 ⟨0, rfl, .inl rfl, rfl⟩
  obtain ⟨p, rfl, hp, rfl⟩ := z
  clear hp0
  -- row
  have hp_0 : 0 ≤ p := by
    rcases hp with z | z
    · omega
    · exact Int.le_of_lt (hR.pos p (hR.mm.mp z))
  have ha4 := e3.seqL x4 ha3
  have hv4 := hv3.mono (e3.kp x4)
  refine ⟨z1, fun l1 n1 => ?_⟩
  have s5 := same_upd (H := H5) (o := .lst [.int 0]) n1
  refine ⟨_, rfl, c, rfl, ⟨_, s5.seq ha4⟩, fun D2 hD2 => lc_rows (s5.seq ha4) (hv4.mono s5.kp) (by omega) hD2 (fun x => decide (x.p = p)) (fun x => .int x.m) (fun x t H Y N hx sm ht h => ?_) (fun H6 s6' hL => ?_)⟩
  · rw [show wipe _ _ = [some (.ref sc), some (.ref st), some (.int 8), some (.ref c), some (.int (0 + (i : Nat))), some (.ref D), none, some (.int p), s8] from rfl]
    refine ⟨rfl, ⟨_, rfl, t, _, _, _, rfl, rfl, ht, atI_nat (j := 2) rfl, _, rfl, rfl, _, rfl, ?_⟩⟩
    by_cases c7 : x.p = p
    · rw [if_pos (by simp [c7])] at h
      exact itT (by simp [c7]) ⟨_, rfl, t, _, _, _, rfl, rfl, ht, atI_nat (j := 0) rfl, h⟩
    · rw [if_neg (by simp [c7])] at h
      exact itF (by simp [c7]) h
  have hrows : (fl.filter (fun x : RS => decide (x.p = p))).map (fun x : RS => V.int x.m) = (((fl.filter (fun x : RS => decide (x.p = p))).map (fun x : RS => x.m))).map V.int := by rw [List.map_map]; rfl
  rw [hrows] at hL
  have hbm : ∀ b ∈ (0 : Int) :: ((fl.filter (fun x : RS => decide (x.p = p))).map (fun x : RS => x.m)), b = 0 ∨ ∃ x ∈ fl, x.p = p ∧ x.m = b := fun b hb => by
    rcases List.mem_cons.mp hb with z | z
    · exact .inl z
    · obtain ⟨x, h1, h2⟩ := List.mem_map.mp z
      obtain ⟨h3, h4⟩ := List.mem_filter.mp h1
      exact .inr ⟨x, h3, by simpa using h4, h2⟩
  have hml : ((fl.filter (fun x : RS => decide (x.p = p))).map (fun x : RS => x.m)).length ≤ 8 := by
    rw [List.length_map]
    exact Nat.le_trans (List.length_filter_le _ _) hfl
  generalize (fl.filter (fun x : RS => decide (x.p = p))).map (fun x : RS => x.m) = ms at hL hbm hml
  clear hrows
  refine ⟨l1, D2, [.int 0], ms.map V.int, rfl, rfl, s6' _ _ upd_same, hL, ?_, fun l2 n2 => ?_⟩
  · rw [List.length_map, List.length_singleton]
    exact Nat.le_of_lt (fin_le (by omega))
  have s7' := s6'.trans (same_upd (o := .lst ([.int 0] ++ ms.map V.int)) n2)
  have hrow : upd H6 l2 (.lst ([.int 0] ++ ms.map V.int)) l2 = some (.lst (((0 : Int) :: ms).map V.int)) := upd_same
  have sA := s5.trans s7'
  have e7 := e4.same sA
  have x7 : Ex st H3 (upd H6 l2 (.lst ([.int 0] ++ ms.map V.int))) := x4.trans (Ex.of sA)
  generalize upd H6 l2 (.lst ([.int 0] ++ ms.map V.int)) = H7 at hrow s7' sA e7 x7
  -- behind
  refine ⟨_, rfl, _, rfl, _, rfl, _, rfl, l2, _, rfl, .inl (.inl (.inl hrow)), sc, st, ns, _, rfl, e7, by rw [List.length_map, List.length_cons]; omega, by rw [List.length_map, List.length_cons]; omega, fun j H8 j1 j2 x8 e8 => ?_⟩
  obtain ⟨j, rfl⟩ := Int.eq_ofNat_of_zero_le j1
  rw [List.length_map] at j2
  have hj : j < ((0 : Int) :: ms).length := by omega
  have hat : (((0 : Int) :: ms).map V.int)[j]? = some (.int (((0 : Int) :: ms)[j]'hj)) := by rw [List.getElem?_map, List.getElem?_eq_getElem hj]; rfl
  refine ⟨l2, _, _, _, rfl, rfl, .inl (.inl (e7.lst x8 hrow)), atI_nat hat, ?_⟩
  have hb := hbm _ (List.getElem_mem hj)
  generalize ((0 : Int) :: ms)[j]'hj = b at hb hat
  -- put
  have x9 := x7.trans x8
  refine ⟨_, rfl, _, rfl, _, rfl, _, rfl, sc, st, D, ns, _, rfl, e8, .inl (.inl (e3.lst x9 hM)), by rw [List.length_map]; omega, fun m H9 hm1 hm2 x10 e9 => ?_⟩
  refine ⟨_, rfl, _, rfl, sc, st, ns, rfl, e9, fun u H10 hu x11 e10 => ?_⟩
  refine ⟨_, rfl, z3, fun t nt => ?_⟩
  have s12 := same_upd (H := H10) (o := .tup [.int m, .str u, .int p]) nt
  have xB := ((x9.trans x10).trans x11).trans (Ex.of s12)
  refine ⟨_, rfl, c, t, fl, ⟨m, u, p⟩, b, rfl, ⟨vs, e3.seqL xB ha3, hv3.mono (e3.kp xB)⟩, .inl (.inl upd_same), by omega, fun H11 c2 s13 hc2 => ?_⟩
  have hb0 : 0 ≤ b := by
    rcases hb with z | ⟨x, h1, h2, h3⟩
    · omega
    · rw [← h3]
      exact Int.le_of_lt (hR.pos _ (hR.mm.mp (List.mem_map.mpr ⟨x, h1, rfl⟩)))
  have hdo : deOk (.add m u p b) := ⟨hm1, hu, hp_0, hb0⟩
  have hLO : LOk fl (.add m u p b) := ⟨hm2, hp, hb.imp id fun ⟨x, h1, h2, h3⟩ => ⟨x, h1, h2, fun z => hm2 (List.mem_map.mpr ⟨x, h1, z⟩), h3⟩⟩
  have hPO := (hR.ok _).mp hLO
  have e : done fl (.add m u p b) = putL fl ⟨m, u, p⟩ b := by simp only [done, less_none hm2]
  refine ⟨c2, putL fl ⟨m, u, p⟩ b, behind f (.add m u p b), _, _, _, _, _, rfl, (x3.trans xB).trans (Ex.of s13), (e10.same s12).same s13, hc2, ?_, hg.step hdo hPO⟩
  rw [← e]
  exact hR.step hm1 hPO
end
end Gf
set_option Elab.async false
set_option linter.all false
set_option maxRecDepth 100000
set_option maxHeartbeats 4000000
namespace Gf
open PySem PySem.Spec PyProof.Rows L2
section
variable {P : Program} {w : World} {K : PySem.W.Frag} {mg : Str → Option Value} {base : Heap} {lt mt : Tok} {H H1 H2 H' : Hp} {sc st : Addr} {ns : List Int}
theorem sc_deed : FnScope ["_law_script", "_law_state", "_law_flat_here", "_law_marks", "_law_row", "_law_kind", "_law_m", "_law_parent", "_law_behind"] ["_law_script", "_law_state", "_law_flat_here"] (defScope s_deed) := ⟨rfl, rfl, rfl, by decide +kernel, rfl, by decide +kernel, by decide +kernel⟩
def sp_ldeed (K : PySem.W.Frag) : Sp := fun vs H Q _ => ∃ (sc st a : Addr) (ns : List Int) (fl : List RS), vs = [.ref sc, .ref st, .ref a] ∧ Ev K H sc st ns ∧ RoL K H fl a ∧ fl.length ≤ 100 ∧ (∀ x ∈ fl, 0 < x.m) ∧ ∀ H' v d, Ex st H H' → Ev K H' sc st ns → DeA K H' d v → deOk d → Q v H'
theorem ok_ldeed (D : Df K mg "_law_deed" s_deed ["_law_script", "_law_state", "_law_flat_here"]) (B : Bi mg) (G_draw : Pr P w K mg base CX0 2 "_law_draw" ["_law_script", "_law_state", "_law_many"] (sp_draw K)) (G_mark : Pr P w K mg base CX0 3 "_law_mark" ["_law_script", "_law_state"] (sp_lmark K))
    (G_fresh : Pr P w K mg base CX0 4 "_law_fresh" ["_law_script", "_law_state", "_law_taken"] (sp_fresh K)) (G_word : Pr P w K mg base CX0 3 "_law_word" ["_law_script", "_law_state"] (sp_lword K)) :
    Pr P w K mg base CX0 5 "_law_deed" ["_law_script", "_law_state", "_law_flat_here"] (sp_ldeed K) := by
  refine D.ok sc_deed (fun vs H Q E h => ?_) (fun fa cdv A outer s H vs Q E hr h => ?_)
  · obtain ⟨a, b, c, ns, fl, rfl, _⟩ := h; rfl
  obtain ⟨sc, st, a, ns, fl, rfl, he, ⟨vs, ha, hv⟩, hfl, hpos, k⟩ := h
  refine ⟨_, (pss_cons (ps_setLc (i := 3) (own := [("_law_row", 4)]) (g := gName 4) (tt := tYes) (te := tOp (rIxT K) (tVar 4) (tC (.int 0))) rfl sc_deed.nd rfl rfl (sw_true rfl rfl rfl (by decide +kernel)) (pi_list (pv 2)) (blkOk_by (N := ["_law_script", "_law_state", "_law_flat_here", "_law_marks", "_law_row", "_law_kind", "_law_m", "_law_parent", "_law_behind"]) (sc := defScope s_deed) (by decide +kernel)) (fun _ _ _ _ _ => pg_name (i := 4) sc_deed.nd rfl (Or.inl rfl)) (fun _ _ _ _ _ => pts_nil) (fun _ _ _ _ _ => (pe_ix ix_tup (pv 4) pe_int (fun _ _ => rfl))))
    (pss_cons (ps_set (i := 5) sc_deed.nd rfl (Or.inl rfl) (pe_ix ix_list (pe_lst (pa_cons pe_str (pa_cons pe_str (pa_cons pe_str (pa_cons pe_str (pa_cons pe_str pa_nil)))))) (pe_own G_draw (hr.mono (by first | decide | omega)) (by rfl) pass0 (pa_cons (pv 0) (pa_cons (pv 1) (pa_cons pe_int pa_nil)))) (fun _ _ => rfl)))
    (pss_cons (ps_set (i := 6) sc_deed.nd rfl (Or.inl rfl) (pe_own G_fresh (hr.mono (by first | decide | omega)) (by rfl) pass0 (pa_cons (pv 0) (pa_cons (pv 1) (pa_cons (pv 3) pa_nil)))))
    (pss_cons (ps_if (PW.pt (pw_and (PW.pt (pw_or (pt_cmpR op_ne (pv 5) pe_str (nomark _)) (pw_or1 (pt_cmpR op_eq (pe_own G_draw (hr.mono (by first | decide | omega)) (by rfl) pass0 (pa_cons (pv 0) (pa_cons (pv 1) (pa_cons pe_int pa_nil)))) pe_int (nomark _))))) (pw_and (pt_cmpR op_gt (pe_callB call_len_seq (by rfl) B.len PySem.boot_len (pa_cons (pv 3) pa_nil)) pe_int (nomark _)) (pw_and1 (pt_cmpR op_gt (pe_own G_draw (hr.mono (by first | decide | omega)) (by rfl) pass0 (pa_cons (pv 0) (pa_cons (pv 1) (pa_cons pe_int pa_nil)))) pe_int (nomark _)))))) (pss_one (ps_set (i := 6) sc_deed.nd rfl (Or.inl rfl) (pe_ix ix_list (pv 3) (pe_own G_draw (hr.mono (by first | decide | omega)) (by rfl) pass0 (pa_cons (pv 0) (pa_cons (pv 1) (pa_cons (pe_callB call_len_seq (by rfl) B.len PySem.boot_len (pa_cons (pv 3) pa_nil)) pa_nil)))) (fun _ _ => rfl)))) pss_nil)
    (pss_cons (ps_if (pt_cmpR op_eq (pv 5) pe_str (nomark _)) (pss_one (ps_ret (pe_tup (pa_cons pe_str (pa_cons (pv 6) pa_nil))))) pss_nil)
    (pss_cons (ps_if (pt_cmpR op_eq (pv 5) pe_str (nomark _)) (pss_one (ps_ret (pe_tup (pa_cons pe_str (pa_cons (pv 6) (pa_cons (pe_own G_word (hr.mono (by first | decide | omega)) (by rfl) pass0 (pa_cons (pv 0) (pa_cons (pv 1) pa_nil))) pa_nil)))))) pss_nil)
    (pss_cons (ps_set (i := 7) sc_deed.nd rfl (Or.inr rfl) (pe_ix ix_list (pe_op op_cat (pe_lst (pa_cons pe_int pa_nil)) (pv 3)) (pe_own G_draw (hr.mono (by first | decide | omega)) (by rfl) pass0 (pa_cons (pv 0) (pa_cons (pv 1) (pa_cons (pe_op op_add (pe_callB call_len_seq (by rfl) B.len PySem.boot_len (pa_cons (pv 3) pa_nil)) pe_int) pa_nil)))) (fun _ _ => rfl)))
    (pss_cons (ps_if (pt_cmpR op_eq (pe_own G_draw (hr.mono (by first | decide | omega)) (by rfl) pass0 (pa_cons (pv 0) (pa_cons (pv 1) (pa_cons pe_int pa_nil)))) pe_int (nomark _)) (pss_one (ps_set (i := 7) sc_deed.nd rfl (Or.inr rfl) (pe_own G_mark (hr.mono (by first | decide | omega)) (by rfl) pass0 (pa_cons (pv 0) (pa_cons (pv 1) pa_nil))))) pss_nil)
    (pss_cons (ps_set (i := 4) sc_deed.nd rfl (Or.inl rfl) (pe_op op_cat (pe_lst (pa_cons pe_int pa_nil)) (pe_lc (own := [("_law_row", 4)]) (g := gName 4)  (te := tOp (rIxT K) (tVar 4) (tC (.int 0))) (tt := tTest (tOp rEq (tOp (rIxT K) (tVar 4) (tC (.int 2))) (tVar 7))) rfl sc_deed.nd (pi_list (pv 2)) (blkOk_by (N := ["_law_script", "_law_state", "_law_flat_here", "_law_marks", "_law_row", "_law_kind", "_law_m", "_law_parent", "_law_behind"]) (sc := defScope s_deed) (by decide +kernel)) (fun _ _ _ _ _ => pg_name (i := 4) sc_deed.nd rfl (Or.inl rfl)) (fun _ _ _ _ _ => pts_one (pt_cmpR op_eq (pe_ix ix_tup (pv 4) pe_int (fun _ _ => rfl)) (pv 7) (nomark _))) (fun _ _ _ _ _ => (pe_ix ix_tup (pv 4) pe_int (fun _ _ => rfl))))))
    (pss_cons (ps_if (pt_cmpR op_eq (pe_own G_draw (hr.mono (by first | decide | omega)) (by rfl) pass0 (pa_cons (pv 0) (pa_cons (pv 1) (pa_cons pe_int pa_nil)))) pe_int (nomark _)) (pss_one (ps_set (i := 4) sc_deed.nd rfl (Or.inl rfl) (pe_op op_cat (pe_op op_cat (pv 4) (pv 3)) (pe_lst (pa_cons (pe_own G_mark (hr.mono (by first | decide | omega)) (by rfl) pass0 (pa_cons (pv 0) (pa_cons (pv 1) pa_nil))) pa_nil))))) pss_nil)
    (pss_cons (ps_set (i := 8) sc_deed.nd rfl (Or.inl rfl) (pe_ix ix_list (pv 4) (pe_own G_draw (hr.mono (by first | decide | omega)) (by rfl) pass0 (pa_cons (pv 0) (pa_cons (pv 1) (pa_cons (pe_callB call_len_seq (by rfl) B.len PySem.boot_len (pa_cons (pv 4) pa_nil)) pa_nil)))) (fun _ _ => rfl)))
    (pss_cons (ps_if (pt_cmpR op_eq (pv 5) pe_str (nomark _)) (pss_one (ps_ret (pe_tup (pa_cons pe_str (pa_cons (pv 6) (pa_cons (pe_own G_word (hr.mono (by first | decide | omega)) (by rfl) pass0 (pa_cons (pv 0) (pa_cons (pv 1) pa_nil))) (pa_cons (pv 7) (pa_cons (pv 8) pa_nil)))))))) pss_nil)
    (pss_one (ps_ret (pe_tup (pa_cons pe_str (pa_cons (pv 6) (pa_cons (pv 7) (pa_cons (pv 8) pa_nil))))))))))))))))))), ?_⟩
  have z1 : 1 ≤ sizeLine := Nat.le_of_lt (small1000 (by decide))
  have z2 : 2 ≤ sizeLine := Nat.le_of_lt (small1000 (by decide))
  have z3 : 3 ≤ sizeLine := Nat.le_of_lt (small1000 (by decide))
  have z4 : 4 ≤ sizeLine := Nat.le_of_lt (small1000 (by decide))
  have z5 : 5 ≤ sizeLine := Nat.le_of_lt (small1000 (by decide))
  have hvl := hv.len
  -- marks
  refine ⟨_, rfl, a, rfl, ⟨_, ha⟩, fun D hD => lc_rows ha hv (by omega) hD (fun _ => true) (fun x => .int x.m) (fun x t H Y N hx sm ht h => ?_) (fun H3 s3 hL => ?_)⟩
  · rw [show wipe _ _ = [some (.ref sc), some (.ref st), some (.ref a), none, none, none, none, none, none] from rfl]
    rw [if_pos rfl] at h
    exact ⟨rfl, ⟨_, rfl, t, _, _, _, rfl, rfl, ht, atI_nat (j := 0) rfl, h⟩⟩
  have hM : H3 D = some (.lst ((fl.map (fun y : RS => y.m)).map V.int)) := by
    rw [hL, List.filter_eq_self.mpr (fun _ _ => rfl), List.map_map]
    rfl
  clear hL
  have x3 : Ex st H H3 := Ex.of s3
  have e3 := he.same s3
  have ha3 := s3.seq ha
  have hv3 := hv.mono s3.kp
  have hmp : ∀ b ∈ fl.map (fun y : RS => y.m), 0 < b := fun b hb => by
    obtain ⟨x, h1, h2⟩ := List.mem_map.mp hb
    rw [← h2]; exact hpos x h1
  have hml : (fl.map (fun y : RS => y.m)).length ≤ 100 := by rw [List.length_map]; exact hfl
  -- kind
  refine ⟨z5, fun l1 n1 => ?_⟩
  have s4 := same_upd (H := H3) (o := .lst [.str "add", .str "move", .str "move", .str "drop", .str "word"]) n1
  have e4 := e3.same s4
  have x4 : Ex st H3 _ := Ex.of s4
  refine ⟨_, rfl, _, rfl, sc, st, ns, 5, rfl, e4, by decide, by decide, fun j H5 j1 j2 x5' e5 => ?_⟩
  have x5 := x4.trans x5'
  obtain ⟨j, rfl⟩ := Int.eq_ofNat_of_zero_le j1
  have hk : ∃ kd : Str, ([V.str "add", V.str "move", V.str "move", V.str "drop", V.str "word"] : List V)[j]? = some (.str kd) ∧ (kd = "add" ∨ kd = "move" ∨ kd = "drop" ∨ kd = "word") := by
    have hj5 : j = 0 ∨ j = 1 ∨ j = 2 ∨ j = 3 ∨ j = 4 := by omega
    rcases hj5 with rfl | rfl | rfl | rfl | rfl
    · exact ⟨_, rfl, .inl rfl⟩
    · exact ⟨_, rfl, .inr (.inl rfl)⟩
    · exact ⟨_, rfl, .inr (.inl rfl)⟩
    · exact ⟨_, rfl, .inr (.inr (.inl rfl))⟩
    · exact ⟨_, rfl, .inr (.inr (.inr rfl))⟩
  obtain ⟨kd, hk1, hk2⟩ := hk
  refine ⟨l1, _, _, _, rfl, rfl, e4.seqL x5' (.inl (.inl upd_same)), atI_nat hk1, ?_⟩
  -- m
  refine ⟨_, rfl, _, rfl, _, rfl, sc, st, D, ns, _, rfl, e5, .inl (.inl (e3.lst x5 hM)), by omega, fun m0 H6 hm0 _ x6' e6 => ?_⟩
  have x6 := x5.trans x6'
  clear hk1 x5' x6' j1 j2
  refine joinN (N := ?N) (fun σ H' => ∃ m : Int, σ = [some (.ref sc), some (.ref st), some (.ref a), some (.ref D), none, some (.str kd), some (.int m), none, none] ∧ 0 < m ∧ Ex st H3 H' ∧ Ev K H' sc st ns) (fun J => ?a) (fun σ H7 z => ?b)
  case a =>
    by_cases ck : kd = "add"
    rotate_left
    · refine ⟨_, rfl, rfl, _, rfl, itT (by simp [ck]) ?_⟩
      refine ⟨_, rfl, D, _, rfl, .inl (.inl (.inl (e3.lst x6 hM))), _, _, rfl, rfl, _, rfl, ?_⟩
      by_cases cl : ¬ 0 < (fl.map (fun y : RS => y.m)).length
      · refine itF (decide_eq_false (by rw [List.length_map]; omega)) ?_
        refine itF rfl ?_
        exact J _ H6 ⟨m0, rfl, hm0, x6, e6⟩
      refine itT (decide_eq_true (by rw [List.length_map]; omega)) ?_
      refine ⟨_, rfl, _, rfl, sc, st, ns, 12, rfl, e6, by decide, by decide, fun q Ha q1 q2 xa ea => ⟨_, _, rfl, rfl, _, rfl, ?_⟩⟩
      by_cases c2 : ¬ 0 < q
      · refine itF (decide_eq_false c2) ?_
        exact J _ Ha ⟨m0, rfl, hm0, x6.trans xa, ea⟩
      refine itT (decide_eq_true (Decidable.not_not.mp c2)) ?_
      refine ⟨_, rfl, _, rfl, _, rfl, _, rfl, D, _, rfl, .inl (.inl (.inl (e3.lst (x6.trans xa) hM))), sc, st, ns, _, rfl, ea, by rw [List.length_map]; omega, by rw [List.length_map]; omega, fun j Hb j1 j2 xb eb => ?_⟩
      obtain ⟨j, rfl⟩ := Int.eq_ofNat_of_zero_le j1
      rw [List.length_map] at j2
      have hj : j < (fl.map (fun y : RS => y.m)).length := by omega
      have hat : ((fl.map (fun y : RS => y.m)).map V.int)[j]? = some (.int ((fl.map (fun y : RS => y.m))[j]'hj)) := by rw [List.getElem?_map, List.getElem?_eq_getElem hj]; rfl
      refine ⟨D, _, _, _, rfl, rfl, .inl (.inl (e3.lst ((x6.trans xa).trans xb) hM)), atI_nat hat, ?_⟩
      exact J _ Hb ⟨_, rfl, hmp _ (List.getElem_mem _), (x6.trans xa).trans xb, eb⟩
    · refine ⟨_, rfl, rfl, _, rfl, itF (by rw [ck]; rfl) ?_⟩
      refine ⟨_, rfl, _, rfl, sc, st, ns, 12, rfl, e6, by decide, by decide, fun q Hc q1 q2 xc' ec => ⟨rfl, _, rfl, ?_⟩⟩
      have xc := x6.trans xc'
      by_cases cq : q = 1
      rotate_left
      · refine itF (decide_eq_false fun z => cq (V.int.inj z)) ?_
        refine itF rfl ?_
        exact J _ Hc ⟨m0, rfl, hm0, xc, ec⟩
      refine itT (decide_eq_true (congrArg V.int cq)) ?_
      refine ⟨_, rfl, D, _, rfl, .inl (.inl (.inl (e3.lst xc hM))), _, _, rfl, rfl, _, rfl, ?_⟩
      by_cases cl : ¬ 0 < (fl.map (fun y : RS => y.m)).length
      · refine itF (decide_eq_false (by rw [List.length_map]; omega)) ?_
        refine itF rfl ?_
        exact J _ Hc ⟨m0, rfl, hm0, xc, ec⟩
      refine itT (decide_eq_true (by rw [List.length_map]; omega)) ?_
      refine ⟨_, rfl, _, rfl, sc, st, ns, 12, rfl, ec, by decide, by decide, fun q Ha q1 q2 xa ea => ⟨_, _, rfl, rfl, _, rfl, ?_⟩⟩
      by_cases c2 : ¬ 0 < q
      · refine itF (decide_eq_false c2) ?_
        exact J _ Ha ⟨m0, rfl, hm0, xc.trans xa, ea⟩
      refine itT (decide_eq_true (Decidable.not_not.mp c2)) ?_
      refine ⟨_, rfl, _, rfl, _, rfl, _, rfl, D, _, rfl, .inl (.inl (.inl (e3.lst (xc.trans xa) hM))), sc, st, ns, _, rfl, ea, by rw [List.length_map]; omega, by rw [List.length_map]; omega, fun j Hb j1 j2 xb eb => ?_⟩
      obtain ⟨j, rfl⟩ := Int.eq_ofNat_of_zero_le j1
      rw [List.length_map] at j2
      have hj : j < (fl.map (fun y : RS => y.m)).length := by omega
      have hat : ((fl.map (fun y : RS => y.m)).map V.int)[j]? = some (.int ((fl.map (fun y : RS => y.m))[j]'hj)) := by rw [List.getElem?_map, List.getElem?_eq_getElem hj]; rfl
      refine ⟨D, _, _, _, rfl, rfl, .inl (.inl (e3.lst ((xc.trans xa).trans xb) hM)), atI_nat hat, ?_⟩
      exact J _ Hb ⟨_, rfl, hmp _ (List.getElem_mem _), (xc.trans xa).trans xb, eb⟩
  obtain ⟨m, rfl, hm, x7, e7⟩ := z
  clear hm0 e6 x6 e5 x5
  -- drop, word
  by_cases cd : kd = "drop"
  · refine ⟨_, rfl, rfl, _, rfl, itT (by rw [cd]; rfl) ?_⟩
    refine ⟨_, rfl, z2, fun t nt => ?_⟩
    have s8 := same_upd (H := H7) (o := .tup [.str "drop", .int m]) nt
    exact k _ _ (.drop m) ((x3.trans x7).trans (Ex.of s8)) (e7.same s8) ⟨t, rfl, .inl (.inl upd_same)⟩ hm
  refine ⟨_, rfl, rfl, _, rfl, itF (by simp [cd]) ?_⟩
  by_cases cw : kd = "word"
  · refine ⟨_, rfl, rfl, _, rfl, itT (by rw [cw]; rfl) ?_⟩
    refine ⟨_, rfl, _, rfl, _, rfl, sc, st, ns, rfl, e7, fun u H8 hu x8 e8 => ⟨z3, fun t nt => ?_⟩⟩
    have s9 := same_upd (H := H8) (o := .tup [.str "word", .int m, .str u]) nt
    exact k _ _ (.word m u) (((x3.trans x7).trans x8).trans (Ex.of s9)) (e8.same s9) ⟨t, rfl, .inl (.inl upd_same)⟩ ⟨hm, hu⟩
  refine ⟨_, rfl, rfl, _, rfl, itF (by simp [cw]) ?_⟩
  -- the parent
  refine ⟨z1, fun l2 n2 => ?_⟩
  have s8 := same_upd (H := H7) (o := .lst [.int 0]) n2
  refine ⟨_, rfl, l2, D, [.int 0], (fl.map (fun y : RS => y.m)).map V.int, rfl, rfl, upd_same, s8 _ _ (e3.lst x7 hM), ?_, fun l3 n3 => ?_⟩
  · rw [List.length_map, List.length_singleton]
    exact Nat.le_of_lt (fin_le (by omega))
  have s9 := s8.trans (same_upd (o := .lst ([.int 0] ++ (fl.map (fun y : RS => y.m)).map V.int)) n3)
  have h3 : upd (upd H7 l2 (.lst [.int 0])) l3 (.lst ([.int 0] ++ (fl.map (fun y : RS => y.m)).map V.int)) l3 = some (.lst (((0 : Int) :: fl.map (fun y : RS => y.m)).map V.int)) := upd_same
  generalize upd (upd H7 l2 (.lst [.int 0])) l3 (.lst ([.int 0] ++ (fl.map (fun y : RS => y.m)).map V.int)) = H9 at s9 h3
  have e9 := e7.same s9
  have x9 := x7.trans (Ex.of s9)
  refine ⟨_, rfl, _, rfl, _, rfl, D, _, rfl, .inl (.inl (.inl (e3.lst x9 hM))), _, _, rfl, rfl, sc, st, ns, _, rfl, e9, by rw [List.length_map]; omega, by rw [List.length_map]; omega, fun j H10 j1 j2 x10' e10 => ?_⟩
  obtain ⟨j, rfl⟩ := Int.eq_ofNat_of_zero_le j1
  rw [List.length_map] at j2
  have hj : j < ((0 : Int) :: fl.map (fun y : RS => y.m)).length := by rw [List.length_cons]; omega
  have hat : (((0 : Int) :: fl.map (fun y : RS => y.m)).map V.int)[j]? = some (.int (((0 : Int) :: fl.map (fun y : RS => y.m))[j]'hj)) := by rw [List.getElem?_map, List.getElem?_eq_getElem hj]; rfl
  refine ⟨l3, _, _, _, rfl, rfl, .inl (.inl (e9.lst x10' h3)), atI_nat hat, ?_⟩
  have hp0 : 0 ≤ ((0 : Int) :: fl.map (fun y : RS => y.m))[j]'hj := by
    rcases List.mem_cons.mp (List.getElem_mem hj) with z | z
    · rw [z]; exact Int.le_refl _
    · exact Int.le_of_lt (hmp _ z)
  generalize ((0 : Int) :: fl.map (fun y : RS => y.m))[j]'hj = p0 at hp0 hat
  clear hat
  have x10 := x9.trans x10'
  refine ⟨_, rfl, _, rfl, sc, st, ns, 10, rfl, e10, by decide, by decide, fun q H11 _ _ x11' e11 => ⟨rfl, _, rfl, ?_⟩⟩
  have x11 := x10.trans x11'
  refine joinN (N := ?N2) (fun σ H' => ∃ p : Int, σ = [some (.ref sc), some (.ref st), some (.ref a), some (.ref D), none, some (.str kd), some (.int m), some (.int p), none] ∧ 0 ≤ p ∧ Ex st H3 H' ∧ Ev K H' sc st ns) (fun J => ?a2) (fun σ H12 z => ?b2)
  case a2 =>
    by_cases cq : q = 1
    rotate_left
    · refine itF (decide_eq_false fun z => cq (V.int.inj z)) ?_
      exact J _ H11 ⟨p0, rfl, hp0, x11, e11⟩
    refine itT (decide_eq_true (congrArg V.int cq)) ?_
    refine ⟨_, rfl, _, rfl, sc, st, ns, rfl, e11, fun p H12 hp x12 e12 => ?_⟩
    exact J _ H12 ⟨p, rfl, by omega, x11.trans x12, e12⟩
  obtain ⟨p, rfl, hp, x12, e12⟩ := z
  clear hp0 x11 e11 x11' e10 x10 x10' x9 e9 s9 h3 s8 x7 e7
  -- the row
  have ha4 := e3.seqL x12 ha3
  have hv4 := hv3.mono (e3.kp x12)
  refine ⟨z1, fun l1 n1 => ?_⟩
  have s5 := same_upd (H := H12) (o := .lst [.int 0]) n1
  refine ⟨_, rfl, a, rfl, ⟨_, s5.seq ha4⟩, fun D2 hD2 => lc_rows (s5.seq ha4) (hv4.mono s5.kp) (by omega) hD2 (fun x => decide (x.p = p)) (fun x => .int x.m) (fun x t H Y N hx sm ht h => ?_) (fun H6 s6' hL => ?_)⟩
  · rw [show wipe _ _ = [some (.ref sc), some (.ref st), some (.ref a), some (.ref D), none, some (.str kd), some (.int m), some (.int p), none] from rfl]
    refine ⟨rfl, ⟨_, rfl, t, _, _, _, rfl, rfl, ht, atI_nat (j := 2) rfl, _, rfl, rfl, _, rfl, ?_⟩⟩
    by_cases c7 : x.p = p
    · rw [if_pos (by simp [c7])] at h
      exact itT (by simp [c7]) ⟨_, rfl, t, _, _, _, rfl, rfl, ht, atI_nat (j := 0) rfl, h⟩
    · rw [if_neg (by simp [c7])] at h
      exact itF (by simp [c7]) h
  have hrows : (fl.filter (fun x : RS => decide (x.p = p))).map (fun x : RS => V.int x.m) = (((fl.filter (fun x : RS => decide (x.p = p))).map (fun x : RS => x.m))).map V.int := by rw [List.map_map]; rfl
  rw [hrows] at hL
  have hbm : ∀ b ∈ (0 : Int) :: ((fl.filter (fun x : RS => decide (x.p = p))).map (fun x : RS => x.m)), 0 ≤ b := fun b hb => by
    rcases List.mem_cons.mp hb with z | z
    · omega
    · obtain ⟨x, h1, h2⟩ := List.mem_map.mp z
      rw [← h2]
      exact Int.le_of_lt (hpos x (List.mem_filter.mp h1).1)
  have hml2 : ((fl.filter (fun x : RS => decide (x.p = p))).map (fun x : RS => x.m)).length ≤ 100 := by
    rw [List.length_map]
    exact Nat.le_trans (List.length_filter_le _ _) hfl
  generalize (fl.filter (fun x : RS => decide (x.p = p))).map (fun x : RS => x.m) = ms at hL hbm hml2
  clear hrows
  refine ⟨l1, D2, [.int 0], ms.map V.int, rfl, rfl, s6' _ _ upd_same, hL, ?_, fun l2 n2 => ?_⟩
  · rw [List.length_map, List.length_singleton]
    exact Nat.le_of_lt (fin_le (by omega))
  have s7' := s6'.trans (same_upd (o := .lst ([.int 0] ++ ms.map V.int)) n2)
  have hrow : upd H6 l2 (.lst ([.int 0] ++ ms.map V.int)) l2 = some (.lst (((0 : Int) :: ms).map V.int)) := upd_same
  have sA := s5.trans s7'
  have e7 := e12.same sA
  have x7 : Ex st H3 (upd H6 l2 (.lst ([.int 0] ++ ms.map V.int))) := x12.trans (Ex.of sA)
  generalize upd H6 l2 (.lst ([.int 0] ++ ms.map V.int)) = H7 at hrow s7' sA e7 x7
  -- more of it
  refine ⟨_, rfl, _, rfl, sc, st, ns, 10, rfl, e7, by decide, by decide, fun q H8 _ _ x8' e8 => ⟨rfl, _, rfl, ?_⟩⟩
  have x8 := x7.trans x8'
  refine joinN (N := ?N3) (fun σ H' => ∃ (r : Addr) (bs : List Int), σ = [some (.ref sc), some (.ref st), some (.ref a), some (.ref D), some (.ref r), some (.str kd), some (.int m), some (.int p), none] ∧ H' r = some (.lst (bs.map V.int)) ∧ 0 < bs.length ∧ bs.length ≤ 300 ∧ (∀ b ∈ bs, 0 ≤ b) ∧ Ex st H3 H' ∧ Ev K H' sc st ns) (fun J => ?a3) (fun σ H9 z => ?b3)
  case a3 =>
    by_cases cq : q = 1
    rotate_left
    · refine itF (decide_eq_false fun z => cq (V.int.inj z)) ?_
      exact J _ H8 ⟨l2, _, rfl, e7.lst x8' hrow, by rw [List.length_cons]; omega, by rw [List.length_cons]; omega, hbm, x8, e8⟩
    refine itT (decide_eq_true (congrArg V.int cq)) ?_
    refine ⟨_, rfl, _, rfl, l2, D, _, _, rfl, rfl, e7.lst x8' hrow, e3.lst x8 hM, ?_, fun l4 n4 => ?_⟩
    · rw [List.length_map, List.length_map, List.length_cons]
      exact Nat.le_of_lt (fin_le (by omega))
    have s9 := same_upd (H := H8) (o := .lst (((0 : Int) :: ms).map V.int ++ (fl.map (fun y : RS => y.m)).map V.int)) n4
    have h4 : upd H8 l4 (.lst (((0 : Int) :: ms).map V.int ++ (fl.map (fun y : RS => y.m)).map V.int)) l4 = some (.lst (((0 : Int) :: ms).map V.int ++ (fl.map (fun y : RS => y.m)).map V.int)) := upd_same
    generalize upd H8 l4 (.lst (((0 : Int) :: ms).map V.int ++ (fl.map (fun y : RS => y.m)).map V.int)) = H9 at s9 h4
    have e9 := e8.same s9
    refine ⟨_, rfl, _, rfl, sc, st, ns, rfl, e9, fun m2 H10 hm2 x10 e10 => ⟨z1, fun l5 n5 => ?_⟩⟩
    have s11 := same_upd (H := H10) (o := .lst [.int m2]) n5
    refine ⟨l4, l5, _, _, rfl, rfl, s11 _ _ (e9.lst x10 h4), upd_same, ?_, fun l6 n6 => ?_⟩
    · rw [List.length_append, List.length_map, List.length_map, List.length_cons, List.length_singleton]
      exact Nat.le_of_lt (fin_le (by omega))
    have s12 := s11.trans (same_upd (o := .lst ((((0 : Int) :: ms).map V.int ++ (fl.map (fun y : RS => y.m)).map V.int) ++ [.int m2])) n6)
    refine J _ _ ⟨l6, ((0 : Int) :: ms) ++ (fl.map (fun y : RS => y.m)) ++ [m2], rfl, ?_, ?_, ?_, ?_, ((x8.trans (Ex.of s9)).trans x10).trans (Ex.of s12), e10.same s12⟩
    · rw [upd_same, List.map_append, List.map_append]
      rfl
    · rw [List.length_append, List.length_singleton]; omega
    · rw [List.length_append, List.length_append, List.length_cons, List.length_singleton]; omega
    · intro b hb
      rcases List.mem_append.mp hb with hb | hb
      · rcases List.mem_append.mp hb with hb | hb
        · exact hbm b hb
        · exact Int.le_of_lt (hmp b hb)
      · rw [List.mem_singleton.mp hb]; omega
  obtain ⟨r, bs, rfl, hr9, hb1, hb2, hbs, x9, e9⟩ := z
  -- behind
  refine ⟨_, rfl, _, rfl, _, rfl, _, rfl, r, _, rfl, .inl (.inl (.inl hr9)), sc, st, ns, _, rfl, e9, by rw [List.length_map]; omega, by rw [List.length_map]; omega, fun j H10 j1 j2 x10' e10 => ?_⟩
  obtain ⟨j, rfl⟩ := Int.eq_ofNat_of_zero_le j1
  rw [List.length_map] at j2
  have hj : j < bs.length := by omega
  have hat : (bs.map V.int)[j]? = some (.int (bs[j]'hj)) := by rw [List.getElem?_map, List.getElem?_eq_getElem hj]; rfl
  refine ⟨r, _, _, _, rfl, rfl, .inl (.inl (e9.lst x10' hr9)), atI_nat hat, ?_⟩
  have hb := hbs _ (List.getElem_mem hj)
  generalize bs[j]'hj = b at hb hat
  have x10 := x3.trans (x9.trans x10')
  by_cases ca : kd = "add"
  · refine ⟨_, rfl, rfl, _, rfl, itT (by rw [ca]; rfl) ?_⟩
    refine ⟨_, rfl, _, rfl, _, rfl, sc, st, ns, rfl, e10, fun u H11 hu x11 e11 => ⟨_, rfl, _, rfl, z5, fun t nt => ?_⟩⟩
    have s12 := same_upd (H := H11) (o := .tup [.str "add", .int m, .str u, .int p, .int b]) nt
    exact k _ _ (.add m u p b) ((x10.trans x11).trans (Ex.of s12)) (e11.same s12) ⟨t, rfl, .inl (.inl upd_same)⟩ ⟨hm, hu, hp, hb⟩
  · refine ⟨_, rfl, rfl, _, rfl, itF (by simp [ca]) ?_⟩
    refine ⟨_, rfl, _, rfl, _, rfl, z4, fun t nt => ?_⟩
    have s12 := same_upd (H := H10) (o := .tup [.str "move", .int m, .int p, .int b]) nt
    exact k _ _ (.move m p b) (x10.trans (Ex.of s12)) (e10.same s12) ⟨t, rfl, .inl (.inl upd_same)⟩ ⟨hm, hp, hb⟩
end
end Gf
set_option Elab.async false
set_option linter.all false
set_option maxRecDepth 100000
set_option maxHeartbeats 4000000
namespace Gf
open PySem PySem.Spec PyProof.Rows L2
theorem de_head (o : DS) (h : deOk o) : ∃ (kd : Str) (rest : List V), deV o = .str kd :: .int (deM o) :: rest ∧ ∀ m : Int, 0 < m → ∃ o', deV o' = .str kd :: .int m :: rest ∧ deOk o' := by
  cases o with
  | add m u p b => exact ⟨_, _, rfl, fun m' hm => ⟨.add m' u p b, rfl, hm, h.2.1, h.2.2.1, h.2.2.2⟩⟩
  | drop m => exact ⟨_, _, rfl, fun m' hm => ⟨.drop m', rfl, hm⟩⟩
  | move m p b => exact ⟨_, _, rfl, fun m' hm => ⟨.move m' p b, rfl, hm, h.2.1, h.2.2⟩⟩
  | word m u => exact ⟨_, _, rfl, fun m' hm => ⟨.word m' u, rfl, hm, h.2⟩⟩
/-- a deed with a place: its front, its two last -/
theorem de_place (o : DS) (h : deOk o) : (∃ (kd : Str) (fr : List V) (p b : Int), (kd = "add" ∨ kd = "move") ∧ (deV o)[0]? = some (.str kd) ∧ deV o = fr ++ [.int p, .int b] ∧ fr.length ≤ 3 ∧ 0 ≤ p ∧ 0 ≤ b ∧ ∀ p' b' : Int, 0 ≤ p' → 0 ≤ b' → ∃ o', deV o' = fr ++ [.int p', .int b'] ∧ deOk o') ∨
    ∃ kd : Str, kd ≠ "add" ∧ kd ≠ "move" ∧ (deV o)[0]? = some (.str kd) ∧ 2 ≤ (deV o).length := by
  cases o with
  | add m u p b => exact .inl ⟨"add", [.str "add", .int m, .str u], p, b, .inl rfl, rfl, rfl, Nat.le_refl 3, h.2.2.1, h.2.2.2, fun p' b' h1 h2 => ⟨.add m u p' b', rfl, h.1, h.2.1, h1, h2⟩⟩
  | drop m => exact .inr ⟨"drop", by decide, by decide, rfl, Nat.le_refl 2⟩
  | move m p b => exact .inl ⟨"move", [.str "move", .int m], p, b, .inr rfl, rfl, rfl, Nat.le_succ 2, h.2.1, h.2.2, fun p' b' h1 h2 => ⟨.move m p' b', rfl, h.1, h1, h2⟩⟩
  | word m u => exact .inr ⟨"word", by decide, by decide, rfl, Nat.le_succ 2⟩
theorem deV_len (o : DS) : 2 ≤ (deV o).length ∧ (deV o).length ≤ 5 := by
  cases o <;> simp [deV]
section
variable {P : Program} {w : World} {K : PySem.W.Frag} {mg : Str → Option Value} {base : Heap} {lt mt : Tok} {H H1 H2 H' : Hp} {sc st : Addr} {ns : List Int}
theorem sc_near : FnScope ["_law_script", "_law_state", "_law_flat_here", "_law_deed_here", "_law_other", "_law_pick", "_law_place", "_law_row"] ["_law_script", "_law_state", "_law_flat_here", "_law_deed_here"] (defScope s_near) := ⟨rfl, rfl, rfl, by decide +kernel, rfl, by decide +kernel, by decide +kernel⟩
def sp_lnear (K : PySem.W.Frag) : Sp := fun vs H Q _ => ∃ (sc st a da : Addr) (ns : List Int) (fl : List RS) (d : DS), vs = [.ref sc, .ref st, .ref a, .ref da] ∧ Ev K H sc st ns ∧ RoL K H fl a ∧ SqT K H da (deV d) ∧ deOk d ∧ fl.length ≤ 100 ∧ (∀ x ∈ fl, 0 < x.m ∧ 0 ≤ x.p) ∧ ∀ H' v d, Ex st H H' → Ev K H' sc st ns → DeA K H' d v → deOk d → Q v H'
theorem ok_lnear (D : Df K mg "_law_near" s_near ["_law_script", "_law_state", "_law_flat_here", "_law_deed_here"]) (B : Bi mg) (G_draw : Pr P w K mg base CX0 2 "_law_draw" ["_law_script", "_law_state", "_law_many"] (sp_draw K)) (G_deed : Pr P w K mg base CX0 5 "_law_deed" ["_law_script", "_law_state", "_law_flat_here"] (sp_ldeed K)) :
    Pr P w K mg base CX0 6 "_law_near" ["_law_script", "_law_state", "_law_flat_here", "_law_deed_here"] (sp_lnear K) := by
  refine D.ok sc_near (fun vs H Q E h => ?_) (fun fa cdv A outer s H vs Q E hr h => ?_)
  · obtain ⟨a, b, c, e, ns, fl, d, rfl, _⟩ := h; rfl
  obtain ⟨sc, st, a, da, ns, fl, d, rfl, he, hfl, hda, hdo, hl, hpos, k⟩ := h
  refine ⟨_, (pss_cons (ps_set (i := 4) sc_near.nd rfl (Or.inl rfl) (pe_own G_deed (hr.mono (by first | decide | omega)) (by rfl) pass0 (pa_cons (pv 0) (pa_cons (pv 1) (pa_cons (pv 2) pa_nil)))))
    (pss_cons (ps_set (i := 5) sc_near.nd rfl (Or.inl rfl) (pe_own G_draw (hr.mono (by first | decide | omega)) (by rfl) pass0 (pa_cons (pv 0) (pa_cons (pv 1) (pa_cons pe_int pa_nil)))))
    (pss_cons (ps_if (pt_cmpR op_eq (pv 5) pe_int (nomark _)) (pss_one (ps_ret (pv 3))) pss_nil)
    (pss_cons (ps_if (pt_cmpR op_eq (pv 5) pe_int (nomark _)) (pss_one (ps_ret (pe_op op_catA (pe_tup (pa_cons (pe_ix ix_tup (pv 4) pe_int (fun _ _ => rfl)) (pa_cons (pe_ix ix_tup (pv 3) pe_int (fun _ _ => rfl)) pa_nil))) (pe_slice sl_tupA (pv 4) (po_some pe_int) po_none)))) pss_nil)
    (pss_cons (ps_if (PW.pt (pw_or (pt_cmpR op_eq (pe_ix ix_tup (pv 4) pe_int (fun _ _ => rfl)) pe_str (nomark _)) (pw_or1 (pt_cmpR op_eq (pe_ix ix_tup (pv 4) pe_int (fun _ _ => rfl)) pe_str (nomark _))))) (pss_cons (ps_set (i := 6) sc_near.nd rfl (Or.inl rfl) (pe_slice sl_tupA (pv 3) (po_some (pe_op op_sub (pe_callB call_len_seq (by rfl) B.len PySem.boot_len (pa_cons (pv 3) pa_nil)) pe_int)) po_none))
    (pss_cons (ps_if (PW.pt (pw_and (pt_cmpR op_eq (pv 5) pe_int (nomark _)) (pw_and1 (PW.pt (pw_or (pt_cmpR op_eq (pe_ix ix_tup (pv 3) pe_int (fun _ _ => rfl)) pe_str (nomark _)) (pw_or1 (pt_cmpR op_eq (pe_ix ix_tup (pv 3) pe_int (fun _ _ => rfl)) pe_str (nomark _)))))))) (pss_one (ps_ret (pe_op op_catA (pe_slice sl_tupA (pv 4) po_none (po_some (pe_op op_sub (pe_callB call_len_seq (by rfl) B.len PySem.boot_len (pa_cons (pv 4) pa_nil)) pe_int))) (pv 6)))) pss_nil)
    (pss_cons (ps_if (pt_cmpR op_eq (pv 5) pe_int (nomark _)) (pss_one (ps_ret (pe_op op_catA (pe_slice sl_tupA (pv 4) po_none (po_some (pe_op op_sub (pe_callB call_len_seq (by rfl) B.len PySem.boot_len (pa_cons (pv 4) pa_nil)) pe_int))) (pe_tup (pa_cons (pe_ix ix_tup (pv 3) pe_int (fun _ _ => rfl)) (pa_cons pe_int pa_nil)))))) pss_nil)
    (pss_cons (ps_set (i := 7) sc_near.nd rfl (Or.inl rfl) (pe_op op_cat (pe_lc (own := [("_law_row", 7)]) (g := gName 7)  (te := tOp (rIxT K) (tVar 7) (tC (.int 2))) (tt := tTest (tOp rEq (tOp (rIxT K) (tVar 7) (tC (.int 0))) (tOp (rIxT K) (tVar 3) (tC (.int 1))))) rfl sc_near.nd (pi_list (pv 2)) (blkOk_by (N := ["_law_script", "_law_state", "_law_flat_here", "_law_deed_here", "_law_other", "_law_pick", "_law_place", "_law_row"]) (sc := defScope s_near) (by decide +kernel)) (fun _ _ _ _ _ => pg_name (i := 7) sc_near.nd rfl (Or.inl rfl)) (fun _ _ _ _ _ => pts_one (pt_cmpR op_eq (pe_ix ix_tup (pv 7) pe_int (fun _ _ => rfl)) (pe_ix ix_tup (pv 3) pe_int (fun _ _ => rfl)) (nomark _))) (fun _ _ _ _ _ => (pe_ix ix_tup (pv 7) pe_int (fun _ _ => rfl)))) (pe_lst (pa_cons pe_int pa_nil))))
    (pss_one (ps_if (pt_cmpR op_eq (pv 5) pe_int (nomark _)) (pss_one (ps_ret (pe_op op_catA (pe_slice sl_tupA (pv 4) po_none (po_some (pe_op op_sub (pe_callB call_len_seq (by rfl) B.len PySem.boot_len (pa_cons (pv 4) pa_nil)) pe_int))) (pe_tup (pa_cons (pe_ix ix_list (pv 7) pe_int (fun _ _ => rfl)) (pa_cons (pe_ix ix_tup (pv 3) pe_int (fun _ _ => rfl)) pa_nil)))))) pss_nil)))))) pss_nil)
    (pss_one (ps_ret (pv 4)))))))), ?_⟩
  have z1 : 1 ≤ sizeLine := Nat.le_of_lt (small1000 (by decide))
  have z2 : 2 ≤ sizeLine := Nat.le_of_lt (small1000 (by decide))
  refine ⟨_, rfl, _, rfl, _, rfl, sc, st, a, ns, fl, rfl, he, hfl, hl, fun x hx => (hpos x hx).1, fun H1 v o x1 e1 ⟨oa, ev, ho⟩ hoo => ?_⟩
  subst ev
  refine ⟨_, rfl, _, rfl, sc, st, ns, 6, rfl, e1, by decide, by decide, fun pk H2 _ _ x2' e2 => ?_⟩
  have x2 := x1.trans x2'
  have ho2 := (e1.kp x2').t _ _ ho
  have hd2 := (he.kp x2).t _ _ hda
  have hfl2 := he.ro x2 hfl
  clear hda ho hfl
  have lo := deV_len o
  have ld := deV_len d
  have back : Q (.ref oa) H2 := k _ _ o x2 e2 ⟨oa, rfl, ho2⟩ hoo
  -- 0
  by_cases p0 : pk = 0
  · refine ⟨_, rfl, rfl, _, rfl, itT (decide_eq_true (congrArg V.int p0)) ?_⟩
    exact ⟨_, rfl, k _ _ d x2 e2 ⟨da, rfl, hd2⟩ hdo⟩
  refine ⟨_, rfl, rfl, _, rfl, itF (decide_eq_false fun z => p0 (V.int.inj z)) ?_⟩
  -- 1
  obtain ⟨kd, rest, ed, _⟩ := de_head d hdo
  obtain ⟨ko, resto, eo, mko⟩ := de_head o hoo
  by_cases p1 : pk = 1
  · refine ⟨_, rfl, rfl, _, rfl, itT (decide_eq_true (congrArg V.int p1)) ?_⟩
    rw [ed] at hd2
    rw [eo] at ho2
    refine ⟨_, rfl, oa, _, _, _, rfl, rfl, ho2, atI_nat (j := 0) rfl, _, rfl, da, _, _, _, rfl, rfl, hd2, atI_nat (j := 1) rfl, z2, fun t nt => ?_⟩
    have s3 := same_upd (H := H2) (o := .tup [.str ko, .int (deM d)]) nt
    refine ⟨_, rfl, _, rfl, ?_⟩
    refine slA_any (lo := some ((2 : Nat) : Int)) (hi := none) (Q := fun y H2 => rCatA K (.ref t) y H2 ?R) (s3.seqT ho2) fun H4 c4 s4 hc4 => ?_
    rw [cut_from] at hc4
    refine catA_any (s4.seqT (.inl (.inl upd_same))) hc4 ?_ fun H5 c5 s5 hc5 => ?_
    · rw [eo, List.length_cons, List.length_cons] at lo
      show 2 + resto.length ≤ sizeLine
      exact Nat.le_of_lt (small1000 (by omega))
    obtain ⟨o', q1, q2⟩ := mko (deM d) hdo.pos
    refine k _ _ o' (x2.trans (Ex.of ((s3.trans s4).trans s5))) (e2.same ((s3.trans s4).trans s5)) ⟨c5, rfl, ?_⟩ q2
    rw [q1]
    exact hc5
  refine ⟨_, rfl, rfl, _, rfl, itF (decide_eq_false fun z => p1 (V.int.inj z)) ?_⟩
  clear mko
  -- no place
  rcases de_place o hoo with ⟨kp, fr, op, ob, hkp, o0, eo2, hfr, _, _, mk⟩ | ⟨kp, n1, n2, o0, _⟩
  rotate_left
  · refine ⟨_, rfl, oa, _, _, _, rfl, rfl, ho2, atI_nat (j := 0) o0, rfl, _, rfl, itF (by simp [n1]) ?_⟩
    refine ⟨_, rfl, oa, _, _, _, rfl, rfl, ho2, atI_nat (j := 0) o0, rfl, _, rfl, itF (by simp [n2]) ?_⟩
    exact ⟨_, rfl, back⟩
  refine joinN (N := ?N) (fun σ H' => σ = [some (.ref sc), some (.ref st), some (.ref a), some (.ref da), some (.ref oa), some (.int pk), none, none] ∧ H' = H2) (fun J => ?a) (fun σ H' z => ?b)
  case a =>
    rcases hkp with hk | hk
    · refine ⟨_, rfl, oa, _, _, _, rfl, rfl, ho2, atI_nat (j := 0) o0, rfl, _, rfl, itT (by rw [hk]; rfl) ?_⟩
      refine itT rfl ?_
      exact J _ H2 ⟨rfl, rfl⟩
    · refine ⟨_, rfl, oa, _, _, _, rfl, rfl, ho2, atI_nat (j := 0) o0, rfl, _, rfl, itF (by rw [hk]; decide +kernel) ?_⟩
      refine ⟨_, rfl, oa, _, _, _, rfl, rfl, ho2, atI_nat (j := 0) o0, rfl, _, rfl, itT (by rw [hk]; rfl) ?_⟩
      exact J _ H2 ⟨rfl, rfl⟩
  obtain ⟨rfl, rfl⟩ := z
  have no : ((deV o).length : Int) - 2 = ((fr.length : Nat) : Int) := by
    rw [eo2, List.length_append]
    show ((fr.length + 2 : Nat) : Int) - 2 = _
    omega
  have nd : ((deV d).length : Int) - 2 = (((deV d).length - 2 : Nat) : Int) := by omega
  -- place
  refine ⟨_, rfl, _, rfl, da, _, rfl, .inr hd2, _, _, rfl, rfl, _, rfl, ?_⟩
  rw [nd]
  unfold tNoPart
  show rSlA K (.ref da) (some (((deV d).length - 2 : Nat) : Int)) none _ _
  refine slA_any hd2 fun H3 c3 s3 hc3 => ?_
  rw [cut_from] at hc3
  have x3 := x2.trans (Ex.of s3)
  have e3 := e2.same s3
  have ho3 := s3.seqT ho2
  have hd3 := s3.seqT hd2
  have hfl3 := hfl2.same s3
  have front : ∀ {Hx : Hp} {Q' : VK}, SqT K Hx oa (deV o) → (∀ H' p, Same Hx H' → SqT K H' p fr → Q' (.ref p) H') → rSlA K (.ref oa) none (some ((fr.length : Nat) : Int)) Hx Q' := fun hx q => slA_any hx fun H' p sm hp => q H' p sm (by rw [cut_to, eo2, List.take_left] at hp; exact hp)
  -- 2
  refine joinN (N := ?N2) (fun σ H' => σ = [some (.ref sc), some (.ref st), some (.ref a), some (.ref da), some (.ref oa), some (.int pk), some (.ref c3), none] ∧ H' = H3) (fun J => ?a2) (fun σ H5 z => ?b2)
  case a2 =>
    by_cases p2 : pk = 2
    rotate_left
    · refine ⟨_, rfl, rfl, _, rfl, itF (decide_eq_false fun z => p2 (V.int.inj z)) ?_⟩
      refine itF rfl ?_
      exact J _ H3 ⟨rfl, rfl⟩
    refine ⟨_, rfl, rfl, _, rfl, itT (decide_eq_true (congrArg V.int p2)) ?_⟩
    rcases de_place d hdo with ⟨kq, fq, dp, db, hkq, d0, ed2, hfq, hp0, hb0, _⟩ | ⟨kq, n1, n2, d0, _⟩
    rotate_left
    · refine ⟨_, rfl, da, _, _, _, rfl, rfl, hd3, atI_nat (j := 0) d0, rfl, _, rfl, itF (by simp [n1]) ?_⟩
      refine ⟨_, rfl, da, _, _, _, rfl, rfl, hd3, atI_nat (j := 0) d0, rfl, _, rfl, itF (by simp [n2]) ?_⟩
      exact J _ H3 ⟨rfl, rfl⟩
    clear J
    refine joinN (N := ?N3) (fun σ H' => σ = [some (.ref sc), some (.ref st), some (.ref a), some (.ref da), some (.ref oa), some (.int pk), some (.ref c3), none] ∧ H' = H3) (fun J => ?a3) (fun σ H5 z => ?b3)
    case a3 =>
      rcases hkq with hk | hk
      · refine ⟨_, rfl, da, _, _, _, rfl, rfl, hd3, atI_nat (j := 0) d0, rfl, _, rfl, itT (by rw [hk]; rfl) ?_⟩
        refine itT rfl ?_
        exact J _ H3 ⟨rfl, rfl⟩
      · refine ⟨_, rfl, da, _, _, _, rfl, rfl, hd3, atI_nat (j := 0) d0, rfl, _, rfl, itF (by rw [hk]; decide +kernel) ?_⟩
        refine ⟨_, rfl, da, _, _, _, rfl, rfl, hd3, atI_nat (j := 0) d0, rfl, _, rfl, itT (by rw [hk]; rfl) ?_⟩
        exact J _ H3 ⟨rfl, rfl⟩
    obtain ⟨rfl, rfl⟩ := z
    have hc5 : SqT K H5 c3 [.int dp, .int db] := by
      rw [ed2, List.length_append] at hc3
      rw [show fq.length + ([V.int dp, V.int db] : List V).length - 2 = fq.length from rfl, List.drop_left] at hc3
      exact hc3
    refine ⟨_, rfl, _, rfl, oa, _, rfl, .inr ho3, _, _, rfl, rfl, _, rfl, ?_⟩
    rw [no]
    refine front ho3 fun H6 c6 s6 hc6 => ?_
    refine ⟨_, rfl, catA_any hc6 (s6.seqT hc5) (by show fr.length + 2 ≤ sizeLine; exact Nat.le_of_lt (small1000 (by omega))) fun H7 c7 s7 hc7 => ?_⟩
    obtain ⟨o', q1, q2⟩ := mk dp db hp0 hb0
    exact k _ _ o' (x3.trans (Ex.of (s6.trans s7))) (e3.same (s6.trans s7)) ⟨c7, rfl, by rw [q1]; exact hc7⟩ q2
  obtain ⟨rfl, rfl⟩ := z
  clear hc3
  -- 3
  have hd3' := hd3
  rw [ed] at hd3'
  by_cases p3 : pk = 3
  · refine ⟨_, rfl, rfl, _, rfl, itT (decide_eq_true (congrArg V.int p3)) ?_⟩
    refine ⟨_, rfl, _, rfl, oa, _, rfl, .inr ho3, _, _, rfl, rfl, _, rfl, ?_⟩
    rw [no]
    refine front ho3 fun H6 c6 s6 hc6 => ?_
    refine ⟨_, rfl, da, _, _, _, rfl, rfl, s6.seqT hd3', atI_nat (j := 1) rfl, z2, fun t nt => ?_⟩
    have s7 := same_upd (H := H6) (o := .tup [.int (deM d), .int 0]) nt
    refine catA_any (s7.seqT hc6) (.inl (.inl upd_same)) (by show fr.length + 2 ≤ sizeLine; exact Nat.le_of_lt (small1000 (by omega))) fun H8 c8 s8 hc8 => ?_
    obtain ⟨o', q1, q2⟩ := mk (deM d) 0 (Int.le_of_lt hdo.pos) (Int.le_refl 0)
    exact k _ _ o' (x3.trans (Ex.of ((s6.trans s7).trans s8))) (e3.same ((s6.trans s7).trans s8)) ⟨c8, rfl, by rw [q1]; exact hc8⟩ q2
  refine ⟨_, rfl, rfl, _, rfl, itF (decide_eq_false fun z => p3 (V.int.inj z)) ?_⟩
  -- row
  obtain ⟨vs, ha, hv⟩ := hfl3
  refine ⟨_, rfl, a, rfl, ⟨_, ha⟩, fun D2 hD2 => lc_rows ha hv (by omega) hD2 (fun x => decide (x.m = deM d)) (fun x => .int x.p) (fun x t H Y N hx sm ht h => ?_) (fun H6 s6 hL => ?_)⟩
  · rw [show wipe _ _ = [some (.ref sc), some (.ref st), some (.ref a), some (.ref da), some (.ref oa), some (.int pk), some (.ref c3), none] from rfl]
    refine ⟨rfl, ⟨_, rfl, t, _, _, _, rfl, rfl, ht, atI_nat (j := 0) rfl, _, rfl, da, _, _, _, rfl, rfl, sm.seqT hd3', atI_nat (j := 1) rfl, rfl, _, rfl, ?_⟩⟩
    by_cases c7 : x.m = deM d
    · rw [if_pos (by simp [c7])] at h
      exact itT (by simp [c7]) ⟨_, rfl, t, _, _, _, rfl, rfl, ht, atI_nat (j := 2) rfl, h⟩
    · rw [if_neg (by simp [c7])] at h
      exact itF (by simp [c7]) h
  have hf : ∃ q qs, (fl.filter (fun x : RS => decide (x.m = deM d))).map (fun x : RS => V.int x.p) ++ [.int 0] = .int q :: qs ∧ 0 ≤ q := by
    cases ef : fl.filter (fun x : RS => decide (x.m = deM d)) with
    | nil => exact ⟨0, [], rfl, Int.le_refl 0⟩
    | cons y ys =>
      have hy : y ∈ fl := (List.mem_filter.mp (ef ▸ List.mem_cons_self .. : y ∈ fl.filter (fun x : RS => decide (x.m = deM d)))).1
      exact ⟨y.p, _, rfl, (hpos y hy).2⟩
  have hlf : ((fl.filter (fun x : RS => decide (x.m = deM d))).map (fun x : RS => V.int x.p)).length ≤ 100 := by
    rw [List.length_map]
    exact Nat.le_trans (List.length_filter_le _ _) hl
  obtain ⟨q, qs, hq1, hq2⟩ := hf
  refine ⟨z1, fun l1 n1 => ?_⟩
  have s7 := same_upd (H := H6) (o := .lst [.int 0]) n1
  refine ⟨D2, l1, _, _, rfl, rfl, s7 _ _ hL, upd_same, Nat.le_of_lt (fin_le (by rw [List.length_singleton]; omega)), fun l2 n2 => ?_⟩
  have s8 := (s6.trans s7).trans (same_upd (o := .lst ((fl.filter (fun x : RS => decide (x.m = deM d))).map (fun x : RS => V.int x.p) ++ [.int 0])) n2)
  rw [hq1]
  rw [hq1] at s8
  have h2 : upd (upd H6 l1 (.lst [.int 0])) l2 (.lst (.int q :: qs)) l2 = some (.lst (.int q :: qs)) := upd_same
  generalize upd (upd H6 l1 (.lst [.int 0])) l2 (.lst (.int q :: qs)) = H8 at s8 h2
  have x8 := x3.trans (Ex.of s8)
  have e8 := e3.same s8
  have ho8 := s8.seqT ho3
  have hd8 := s8.seqT hd3'
  by_cases p4 : pk = 4
  · refine ⟨_, rfl, rfl, _, rfl, itT (decide_eq_true (congrArg V.int p4)) ?_⟩
    refine ⟨_, rfl, _, rfl, oa, _, rfl, .inr ho8, _, _, rfl, rfl, _, rfl, ?_⟩
    rw [no]
    refine front ho8 fun H9 c9 s9 hc9 => ?_
    refine ⟨_, rfl, l2, _, _, _, rfl, rfl, .inl (.inl (s9 _ _ h2)), atI_nat (j := 0) rfl, _, rfl, da, _, _, _, rfl, rfl, s9.seqT hd8, atI_nat (j := 1) rfl, z2, fun t nt => ?_⟩
    have s10 := same_upd (H := H9) (o := .tup [.int q, .int (deM d)]) nt
    refine catA_any (s10.seqT hc9) (.inl (.inl upd_same)) (by show fr.length + 2 ≤ sizeLine; exact Nat.le_of_lt (small1000 (by omega))) fun H11 c11 s11 hc11 => ?_
    obtain ⟨o', q1, q2⟩ := mk q (deM d) hq2 (Int.le_of_lt hdo.pos)
    exact k _ _ o' (x8.trans (Ex.of ((s9.trans s10).trans s11))) (e8.same ((s9.trans s10).trans s11)) ⟨c11, rfl, by rw [q1]; exact hc11⟩ q2
  refine ⟨_, rfl, rfl, _, rfl, itF (decide_eq_false fun z => p4 (V.int.inj z)) ?_⟩
  exact ⟨_, rfl, k _ _ o x8 e8 ⟨oa, rfl, ho8⟩ hoo⟩
end
end Gf
set_option Elab.async false
set_option linter.all false
set_option maxRecDepth 100000
set_option maxHeartbeats 4000000
namespace Gf
open PySem PySem.Spec PyProof.Rows L2
mutual
def smD : PyData → Prop
  | .list xs => xs.length ≤ 1000 ∧ smAll xs
  | .tuple xs => xs.length ≤ 1000 ∧ smAll xs
  | .dict _ => False
  | .none => True
  | .bool _ => True
  | .int _ => True
  | .str _ => True
def smAll : List PyData → Prop
  | [] => True
  | x :: xs => smD x ∧ smAll xs
end
section
variable {P : Program} {w : World} {K : PySem.W.Frag} {mg : Str → Option Value} {base : Heap} {lt mt : Tok} {H H1 H2 H' : Hp} {sc st : Addr} {ns : List Int}
theorem dpAll_at : ∀ {ds : List PyData} {xs : List V} {i : Nat} {v : V}, DpAll K H xs ds → smAll ds → xs[i]? = some v → ∃ d, ds[i]? = some d ∧ Dp K H v d ∧ d.depth ≤ PyData.depthAll ds ∧ smD d
  | [], _, _, _, h, _, e => by cases h; simp at e
  | d :: ds, _, 0, v, h, s, e => by
    cases h with
    | cons h1 h2 =>
      obtain rfl := Option.some.inj e
      rw [smAll] at s
      exact ⟨d, rfl, h1, by rw [PyData.depthAll]; omega, s.1⟩
  | d :: ds, _, i + 1, v, h, s, e => by
    cases h with
    | cons h1 h2 =>
      rw [smAll] at s
      obtain ⟨d', q1, q2, q3, q4⟩ := dpAll_at (i := i) h2 s.2 e
      exact ⟨d', q1, q2, by rw [PyData.depthAll]; omega, q4⟩
theorem dpAll_len : ∀ {ds : List PyData} {xs : List V}, DpAll K H xs ds → xs.length = ds.length
  | [], _, h => by cases h; rfl
  | d :: ds, _, h => by
    cases h with
    | cons h1 h2 => rw [List.length_cons, List.length_cons, dpAll_len h2]
theorem sc_alike : FnScope ["_law_told", "_law_due", "_law_k"] ["_law_told", "_law_due"] (defScope s_alike) := ⟨rfl, rfl, rfl, by decide +kernel, rfl, by decide +kernel, by decide +kernel⟩
def sp_alike (K : PySem.W.Frag) (n : Nat) : Sp := fun vs H Q _ => ∃ (x y : V) (d : PyData), vs = [x, y] ∧ Dp K H x d ∧ Dp K H y d ∧ smD d ∧ d.depth < n ∧ Q (.bl true) H
theorem ok_alike (D : Df K mg "_law_alike" s_alike ["_law_told", "_law_due"]) (B : Bi mg) : ∀ n : Nat, Pr P w K mg base CX0 n "_law_alike" ["_law_told", "_law_due"] (sp_alike K n)
  | 0 => D.none fun vs H Q E ⟨x, y, d, _, _, _, _, h, _⟩ => absurd h (Nat.not_lt_zero _)
  | n + 1 => by
    have G_alike := ok_alike D B n
    refine D.ok sc_alike (fun vs H Q E h => ?_) (fun fa cdv A outer s H vs Q E hr h => ?_)
    · obtain ⟨x, y, d, rfl, _⟩ := h; rfl
    obtain ⟨x, y, d, rfl, hx, hy, hsm, hdp, q⟩ := h
    cases d with
    | none =>
      cases hx; cases hy
      refine ⟨_, (pss_cons (ps_if (pt_cmpR op_isN (pv 1) pe_non (nomark _)) (pss_one (ps_ret (pe_cmpR op_isN (pv 0) pe_non (nomark _)))) pss_nil)
    (pss_cons (ps_if (pt_val (pe_callB call_isi (by rfl) B.isinstance (by decide +kernel) (pa_cons (pv 1) (pa_cons (pe_bltn (v := .ty "bool") (by rfl) B.tbool (by decide +kernel) rfl) pa_nil)))) (pss_one (ps_ret (pe_and (pe_callB call_isi (by rfl) B.isinstance (by decide +kernel) (pa_cons (pv 0) (pa_cons (pe_bltn (v := .ty "bool") (by rfl) B.tbool (by decide +kernel) rfl) pa_nil))) (pe_one (pe_cmpR op_eq (pv 0) (pv 1) (nomark _)))))) pss_nil)
    (pss_cons (ps_if (pt_val (pe_callB call_isi (by rfl) B.isinstance (by decide +kernel) (pa_cons (pv 1) (pa_cons (pe_bltn (v := .ty "int") (by rfl) B.tint (by decide +kernel) rfl) pa_nil)))) (pss_one (ps_ret (pe_and (pe_callB call_isi (by rfl) B.isinstance (by decide +kernel) (pa_cons (pv 0) (pa_cons (pe_bltn (v := .ty "int") (by rfl) B.tint (by decide +kernel) rfl) pa_nil))) (pe_and (pe_not (pe_callB call_isi (by rfl) B.isinstance (by decide +kernel) (pa_cons (pv 0) (pa_cons (pe_bltn (v := .ty "bool") (by rfl) B.tbool (by decide +kernel) rfl) pa_nil)))) (pe_one (pe_cmpR op_eq (pv 0) (pv 1) (nomark _))))))) pss_nil)
    (pss_cons (ps_if (pt_val (pe_callB call_isi (by rfl) B.isinstance (by decide +kernel) (pa_cons (pv 1) (pa_cons (pe_bltn (v := .ty "str") (by rfl) B.tstr (by decide +kernel) rfl) pa_nil)))) (pss_one (ps_ret (pe_and (pe_callB call_isi (by rfl) B.isinstance (by decide +kernel) (pa_cons (pv 0) (pa_cons (pe_bltn (v := .ty "str") (by rfl) B.tstr (by decide +kernel) rfl) pa_nil))) (pe_one (pe_cmpR op_eq (pv 0) (pv 1) (nomark _)))))) pss_nil)
    (pss_cons (ps_if (PW.pt (pw_or (pt_cmpR op_ne (pe_callB call_isi (by rfl) B.isinstance (by decide +kernel) (pa_cons (pv 1) (pa_cons (pe_bltn (v := .ty "tuple") (by rfl) B.ttuple (by decide +kernel) rfl) pa_nil))) (pe_callB call_isi (by rfl) B.isinstance (by decide +kernel) (pa_cons (pv 0) (pa_cons (pe_bltn (v := .ty "tuple") (by rfl) B.ttuple (by decide +kernel) rfl) pa_nil))) (nomark _)) (pw_or1 (pt_cmpR op_ne (pe_callB call_isi (by rfl) B.isinstance (by decide +kernel) (pa_cons (pv 1) (pa_cons (pe_bltn (v := .ty "list") (by rfl) B.tlist (by decide +kernel) rfl) pa_nil))) (pe_callB call_isi (by rfl) B.isinstance (by decide +kernel) (pa_cons (pv 0) (pa_cons (pe_bltn (v := .ty "list") (by rfl) B.tlist (by decide +kernel) rfl) pa_nil))) (nomark _))))) (pss_one (ps_ret pe_bl)) pss_nil)
    (pss_cons (ps_if (pt_cmpR op_ne (pe_callB call_len_seq (by rfl) B.len PySem.boot_len (pa_cons (pv 0) pa_nil)) (pe_callB call_len_seq (by rfl) B.len PySem.boot_len (pa_cons (pv 1) pa_nil)) (nomark _)) (pss_one (ps_ret pe_bl)) pss_nil)
    (pss_cons (ps_for PassesOwn.never rfl (pi_range1 (by rfl) B.range (pa_cons (pe_callB call_len_seq (by rfl) B.len PySem.boot_len (pa_cons (pv 1) pa_nil)) pa_nil)) (pg_name (i := 2) sc_alike.nd rfl (Or.inl rfl)) (pss_one (ps_if (pt_not (pt_val (pe_own G_alike (hr.mono (by first | decide | omega)) (by rfl) pass0 (pa_cons (pe_ix ix_tup (pv 0) (pv 2) (fun _ _ => rfl)) (pa_cons (pe_ix ix_tup (pv 1) (pv 2) (fun _ _ => rfl)) pa_nil))))) (pss_one (ps_ret pe_bl)) pss_nil)))
    (pss_one (ps_ret pe_bl))))))))), ?_⟩
      refine ⟨_, rfl, rfl, _, rfl, itT rfl ?_⟩
      exact ⟨_, rfl, rfl, q⟩
    | bool b =>
      cases hx; cases hy
      refine ⟨_, (pss_cons (ps_if (pt_cmpR op_isN (pv 1) pe_non (nomark _)) (pss_one (ps_ret (pe_cmpR op_isN (pv 0) pe_non (nomark _)))) pss_nil)
    (pss_cons (ps_if (pt_val (pe_callB call_isi (by rfl) B.isinstance (by decide +kernel) (pa_cons (pv 1) (pa_cons (pe_bltn (v := .ty "bool") (by rfl) B.tbool (by decide +kernel) rfl) pa_nil)))) (pss_one (ps_ret (pe_and (pe_callB call_isi (by rfl) B.isinstance (by decide +kernel) (pa_cons (pv 0) (pa_cons (pe_bltn (v := .ty "bool") (by rfl) B.tbool (by decide +kernel) rfl) pa_nil))) (pe_one (pe_cmpR op_eq (pv 0) (pv 1) (nomark _)))))) pss_nil)
    (pss_cons (ps_if (pt_val (pe_callB call_isi (by rfl) B.isinstance (by decide +kernel) (pa_cons (pv 1) (pa_cons (pe_bltn (v := .ty "int") (by rfl) B.tint (by decide +kernel) rfl) pa_nil)))) (pss_one (ps_ret (pe_and (pe_callB call_isi (by rfl) B.isinstance (by decide +kernel) (pa_cons (pv 0) (pa_cons (pe_bltn (v := .ty "int") (by rfl) B.tint (by decide +kernel) rfl) pa_nil))) (pe_and (pe_not (pe_callB call_isi (by rfl) B.isinstance (by decide +kernel) (pa_cons (pv 0) (pa_cons (pe_bltn (v := .ty "bool") (by rfl) B.tbool (by decide +kernel) rfl) pa_nil)))) (pe_one (pe_cmpR op_eq (pv 0) (pv 1) (nomark _))))))) pss_nil)
    (pss_cons (ps_if (pt_val (pe_callB call_isi (by rfl) B.isinstance (by decide +kernel) (pa_cons (pv 1) (pa_cons (pe_bltn (v := .ty "str") (by rfl) B.tstr (by decide +kernel) rfl) pa_nil)))) (pss_one (ps_ret (pe_and (pe_callB call_isi (by rfl) B.isinstance (by decide +kernel) (pa_cons (pv 0) (pa_cons (pe_bltn (v := .ty "str") (by rfl) B.tstr (by decide +kernel) rfl) pa_nil))) (pe_one (pe_cmpR op_eq (pv 0) (pv 1) (nomark _)))))) pss_nil)
    (pss_cons (ps_if (PW.pt (pw_or (pt_cmpR op_ne (pe_callB call_isi (by rfl) B.isinstance (by decide +kernel) (pa_cons (pv 1) (pa_cons (pe_bltn (v := .ty "tuple") (by rfl) B.ttuple (by decide +kernel) rfl) pa_nil))) (pe_callB call_isi (by rfl) B.isinstance (by decide +kernel) (pa_cons (pv 0) (pa_cons (pe_bltn (v := .ty "tuple") (by rfl) B.ttuple (by decide +kernel) rfl) pa_nil))) (nomark _)) (pw_or1 (pt_cmpR op_ne (pe_callB call_isi (by rfl) B.isinstance (by decide +kernel) (pa_cons (pv 1) (pa_cons (pe_bltn (v := .ty "list") (by rfl) B.tlist (by decide +kernel) rfl) pa_nil))) (pe_callB call_isi (by rfl) B.isinstance (by decide +kernel) (pa_cons (pv 0) (pa_cons (pe_bltn (v := .ty "list") (by rfl) B.tlist (by decide +kernel) rfl) pa_nil))) (nomark _))))) (pss_one (ps_ret pe_bl)) pss_nil)
    (pss_cons (ps_if (pt_cmpR op_ne (pe_callB call_len_seq (by rfl) B.len PySem.boot_len (pa_cons (pv 0) pa_nil)) (pe_callB call_len_seq (by rfl) B.len PySem.boot_len (pa_cons (pv 1) pa_nil)) (nomark _)) (pss_one (ps_ret pe_bl)) pss_nil)
    (pss_cons (ps_for PassesOwn.never rfl (pi_range1 (by rfl) B.range (pa_cons (pe_callB call_len_seq (by rfl) B.len PySem.boot_len (pa_cons (pv 1) pa_nil)) pa_nil)) (pg_name (i := 2) sc_alike.nd rfl (Or.inl rfl)) (pss_one (ps_if (pt_not (pt_val (pe_own G_alike (hr.mono (by first | decide | omega)) (by rfl) pass0 (pa_cons (pe_ix ix_tup (pv 0) (pv 2) (fun _ _ => rfl)) (pa_cons (pe_ix ix_tup (pv 1) (pv 2) (fun _ _ => rfl)) pa_nil))))) (pss_one (ps_ret pe_bl)) pss_nil)))
    (pss_one (ps_ret pe_bl))))))))), ?_⟩
      refine ⟨_, rfl, rfl, _, rfl, itF rfl ?_⟩
      refine ⟨_, rfl, .bl b, .ty "bool", _, _, true, rfl, .ty _, .base (.bl _), kit_ty (by decide +kernel), _, rfl, itT rfl ?_⟩
      refine ⟨_, rfl, .bl b, .ty "bool", _, _, true, rfl, .ty _, .base (.bl _), kit_ty (by decide +kernel), _, rfl, itT rfl ?_⟩
      exact ⟨_, rfl, _, rfl, rfl, by simpa using q⟩
    | int i =>
      cases hx; cases hy
      refine ⟨_, (pss_cons (ps_if (pt_cmpR op_isN (pv 1) pe_non (nomark _)) (pss_one (ps_ret (pe_cmpR op_isN (pv 0) pe_non (nomark _)))) pss_nil)
    (pss_cons (ps_if (pt_val (pe_callB call_isi (by rfl) B.isinstance (by decide +kernel) (pa_cons (pv 1) (pa_cons (pe_bltn (v := .ty "bool") (by rfl) B.tbool (by decide +kernel) rfl) pa_nil)))) (pss_one (ps_ret (pe_and (pe_callB call_isi (by rfl) B.isinstance (by decide +kernel) (pa_cons (pv 0) (pa_cons (pe_bltn (v := .ty "bool") (by rfl) B.tbool (by decide +kernel) rfl) pa_nil))) (pe_one (pe_cmpR op_eq (pv 0) (pv 1) (nomark _)))))) pss_nil)
    (pss_cons (ps_if (pt_val (pe_callB call_isi (by rfl) B.isinstance (by decide +kernel) (pa_cons (pv 1) (pa_cons (pe_bltn (v := .ty "int") (by rfl) B.tint (by decide +kernel) rfl) pa_nil)))) (pss_one (ps_ret (pe_and (pe_callB call_isi (by rfl) B.isinstance (by decide +kernel) (pa_cons (pv 0) (pa_cons (pe_bltn (v := .ty "int") (by rfl) B.tint (by decide +kernel) rfl) pa_nil))) (pe_and (pe_not (pe_callB call_isi (by rfl) B.isinstance (by decide +kernel) (pa_cons (pv 0) (pa_cons (pe_bltn (v := .ty "bool") (by rfl) B.tbool (by decide +kernel) rfl) pa_nil)))) (pe_one (pe_cmpR op_eq (pv 0) (pv 1) (nomark _))))))) pss_nil)
    (pss_cons (ps_if (pt_val (pe_callB call_isi (by rfl) B.isinstance (by decide +kernel) (pa_cons (pv 1) (pa_cons (pe_bltn (v := .ty "str") (by rfl) B.tstr (by decide +kernel) rfl) pa_nil)))) (pss_one (ps_ret (pe_and (pe_callB call_isi (by rfl) B.isinstance (by decide +kernel) (pa_cons (pv 0) (pa_cons (pe_bltn (v := .ty "str") (by rfl) B.tstr (by decide +kernel) rfl) pa_nil))) (pe_one (pe_cmpR op_eq (pv 0) (pv 1) (nomark _)))))) pss_nil)
    (pss_cons (ps_if (PW.pt (pw_or (pt_cmpR op_ne (pe_callB call_isi (by rfl) B.isinstance (by decide +kernel) (pa_cons (pv 1) (pa_cons (pe_bltn (v := .ty "tuple") (by rfl) B.ttuple (by decide +kernel) rfl) pa_nil))) (pe_callB call_isi (by rfl) B.isinstance (by decide +kernel) (pa_cons (pv 0) (pa_cons (pe_bltn (v := .ty "tuple") (by rfl) B.ttuple (by decide +kernel) rfl) pa_nil))) (nomark _)) (pw_or1 (pt_cmpR op_ne (pe_callB call_isi (by rfl) B.isinstance (by decide +kernel) (pa_cons (pv 1) (pa_cons (pe_bltn (v := .ty "list") (by rfl) B.tlist (by decide +kernel) rfl) pa_nil))) (pe_callB call_isi (by rfl) B.isinstance (by decide +kernel) (pa_cons (pv 0) (pa_cons (pe_bltn (v := .ty "list") (by rfl) B.tlist (by decide +kernel) rfl) pa_nil))) (nomark _))))) (pss_one (ps_ret pe_bl)) pss_nil)
    (pss_cons (ps_if (pt_cmpR op_ne (pe_callB call_len_seq (by rfl) B.len PySem.boot_len (pa_cons (pv 0) pa_nil)) (pe_callB call_len_seq (by rfl) B.len PySem.boot_len (pa_cons (pv 1) pa_nil)) (nomark _)) (pss_one (ps_ret pe_bl)) pss_nil)
    (pss_cons (ps_for PassesOwn.never rfl (pi_range1 (by rfl) B.range (pa_cons (pe_callB call_len_seq (by rfl) B.len PySem.boot_len (pa_cons (pv 1) pa_nil)) pa_nil)) (pg_name (i := 2) sc_alike.nd rfl (Or.inl rfl)) (pss_one (ps_if (pt_not (pt_val (pe_own G_alike (hr.mono (by first | decide | omega)) (by rfl) pass0 (pa_cons (pe_ix ix_tup (pv 0) (pv 2) (fun _ _ => rfl)) (pa_cons (pe_ix ix_tup (pv 1) (pv 2) (fun _ _ => rfl)) pa_nil))))) (pss_one (ps_ret pe_bl)) pss_nil)))
    (pss_one (ps_ret pe_bl))))))))), ?_⟩
      refine ⟨_, rfl, rfl, _, rfl, itF rfl ?_⟩
      refine ⟨_, rfl, .int i, .ty "bool", _, _, false, rfl, .ty _, .base (.int _), kit_ty (by decide +kernel), _, rfl, itF rfl ?_⟩
      refine ⟨_, rfl, .int i, .ty "int", _, _, true, rfl, .ty _, .base (.int _), kit_ty (by decide +kernel), _, rfl, itT rfl ?_⟩
      refine ⟨_, rfl, .int i, .ty "int", _, _, true, rfl, .ty _, .base (.int _), kit_ty (by decide +kernel), _, rfl, itT rfl ?_⟩
      refine ⟨_, rfl, .int i, .ty "bool", _, _, false, rfl, .ty _, .base (.int _), kit_ty (by decide +kernel), _, rfl, _, rfl, itT rfl ?_⟩
      exact ⟨_, rfl, _, rfl, rfl, by simpa using q⟩
    | str z =>
      cases hx; cases hy
      refine ⟨_, (pss_cons (ps_if (pt_cmpR op_isN (pv 1) pe_non (nomark _)) (pss_one (ps_ret (pe_cmpR op_isN (pv 0) pe_non (nomark _)))) pss_nil)
    (pss_cons (ps_if (pt_val (pe_callB call_isi (by rfl) B.isinstance (by decide +kernel) (pa_cons (pv 1) (pa_cons (pe_bltn (v := .ty "bool") (by rfl) B.tbool (by decide +kernel) rfl) pa_nil)))) (pss_one (ps_ret (pe_and (pe_callB call_isi (by rfl) B.isinstance (by decide +kernel) (pa_cons (pv 0) (pa_cons (pe_bltn (v := .ty "bool") (by rfl) B.tbool (by decide +kernel) rfl) pa_nil))) (pe_one (pe_cmpR op_eq (pv 0) (pv 1) (nomark _)))))) pss_nil)
    (pss_cons (ps_if (pt_val (pe_callB call_isi (by rfl) B.isinstance (by decide +kernel) (pa_cons (pv 1) (pa_cons (pe_bltn (v := .ty "int") (by rfl) B.tint (by decide +kernel) rfl) pa_nil)))) (pss_one (ps_ret (pe_and (pe_callB call_isi (by rfl) B.isinstance (by decide +kernel) (pa_cons (pv 0) (pa_cons (pe_bltn (v := .ty "int") (by rfl) B.tint (by decide +kernel) rfl) pa_nil))) (pe_and (pe_not (pe_callB call_isi (by rfl) B.isinstance (by decide +kernel) (pa_cons (pv 0) (pa_cons (pe_bltn (v := .ty "bool") (by rfl) B.tbool (by decide +kernel) rfl) pa_nil)))) (pe_one (pe_cmpR op_eq (pv 0) (pv 1) (nomark _))))))) pss_nil)
    (pss_cons (ps_if (pt_val (pe_callB call_isi (by rfl) B.isinstance (by decide +kernel) (pa_cons (pv 1) (pa_cons (pe_bltn (v := .ty "str") (by rfl) B.tstr (by decide +kernel) rfl) pa_nil)))) (pss_one (ps_ret (pe_and (pe_callB call_isi (by rfl) B.isinstance (by decide +kernel) (pa_cons (pv 0) (pa_cons (pe_bltn (v := .ty "str") (by rfl) B.tstr (by decide +kernel) rfl) pa_nil))) (pe_one (pe_cmpR op_eq (pv 0) (pv 1) (nomark _)))))) pss_nil)
    (pss_cons (ps_if (PW.pt (pw_or (pt_cmpR op_ne (pe_callB call_isi (by rfl) B.isinstance (by decide +kernel) (pa_cons (pv 1) (pa_cons (pe_bltn (v := .ty "tuple") (by rfl) B.ttuple (by decide +kernel) rfl) pa_nil))) (pe_callB call_isi (by rfl) B.isinstance (by decide +kernel) (pa_cons (pv 0) (pa_cons (pe_bltn (v := .ty "tuple") (by rfl) B.ttuple (by decide +kernel) rfl) pa_nil))) (nomark _)) (pw_or1 (pt_cmpR op_ne (pe_callB call_isi (by rfl) B.isinstance (by decide +kernel) (pa_cons (pv 1) (pa_cons (pe_bltn (v := .ty "list") (by rfl) B.tlist (by decide +kernel) rfl) pa_nil))) (pe_callB call_isi (by rfl) B.isinstance (by decide +kernel) (pa_cons (pv 0) (pa_cons (pe_bltn (v := .ty "list") (by rfl) B.tlist (by decide +kernel) rfl) pa_nil))) (nomark _))))) (pss_one (ps_ret pe_bl)) pss_nil)
    (pss_cons (ps_if (pt_cmpR op_ne (pe_callB call_len_seq (by rfl) B.len PySem.boot_len (pa_cons (pv 0) pa_nil)) (pe_callB call_len_seq (by rfl) B.len PySem.boot_len (pa_cons (pv 1) pa_nil)) (nomark _)) (pss_one (ps_ret pe_bl)) pss_nil)
    (pss_cons (ps_for PassesOwn.never rfl (pi_range1 (by rfl) B.range (pa_cons (pe_callB call_len_seq (by rfl) B.len PySem.boot_len (pa_cons (pv 1) pa_nil)) pa_nil)) (pg_name (i := 2) sc_alike.nd rfl (Or.inl rfl)) (pss_one (ps_if (pt_not (pt_val (pe_own G_alike (hr.mono (by first | decide | omega)) (by rfl) pass0 (pa_cons (pe_ix ix_tup (pv 0) (pv 2) (fun _ _ => rfl)) (pa_cons (pe_ix ix_tup (pv 1) (pv 2) (fun _ _ => rfl)) pa_nil))))) (pss_one (ps_ret pe_bl)) pss_nil)))
    (pss_one (ps_ret pe_bl))))))))), ?_⟩
      refine ⟨_, rfl, rfl, _, rfl, itF rfl ?_⟩
      refine ⟨_, rfl, .str z, .ty "bool", _, _, false, rfl, .ty _, .base (.str _), kit_ty (by decide +kernel), _, rfl, itF rfl ?_⟩
      refine ⟨_, rfl, .str z, .ty "int", _, _, false, rfl, .ty _, .base (.str _), kit_ty (by decide +kernel), _, rfl, itF rfl ?_⟩
      refine ⟨_, rfl, .str z, .ty "str", _, _, true, rfl, .ty _, .base (.str _), kit_ty (by decide +kernel), _, rfl, itT rfl ?_⟩
      refine ⟨_, rfl, .str z, .ty "str", _, _, true, rfl, .ty _, .base (.str _), kit_ty (by decide +kernel), _, rfl, itT rfl ?_⟩
      exact ⟨_, rfl, _, rfl, rfl, by simpa using q⟩
    | tuple ds =>
      cases hx with
      | tup hx1 hx2 =>
      cases hy with
      | tup hy1 hy2 =>
      rename_i a xs b ys
      rw [smD] at hsm
      have hxl := dpAll_len hx2
      have hyl := dpAll_len hy2
      rw [PyData.depth] at hdp
      refine ⟨_, (pss_cons (ps_if (pt_cmpR op_isN (pv 1) pe_non (nomark _)) (pss_one (ps_ret (pe_cmpR op_isN (pv 0) pe_non (nomark _)))) pss_nil)
    (pss_cons (ps_if (pt_val (pe_callB call_isi (by rfl) B.isinstance (by decide +kernel) (pa_cons (pv 1) (pa_cons (pe_bltn (v := .ty "bool") (by rfl) B.tbool (by decide +kernel) rfl) pa_nil)))) (pss_one (ps_ret (pe_and (pe_callB call_isi (by rfl) B.isinstance (by decide +kernel) (pa_cons (pv 0) (pa_cons (pe_bltn (v := .ty "bool") (by rfl) B.tbool (by decide +kernel) rfl) pa_nil))) (pe_one (pe_cmpR op_eq (pv 0) (pv 1) (nomark _)))))) pss_nil)
    (pss_cons (ps_if (pt_val (pe_callB call_isi (by rfl) B.isinstance (by decide +kernel) (pa_cons (pv 1) (pa_cons (pe_bltn (v := .ty "int") (by rfl) B.tint (by decide +kernel) rfl) pa_nil)))) (pss_one (ps_ret (pe_and (pe_callB call_isi (by rfl) B.isinstance (by decide +kernel) (pa_cons (pv 0) (pa_cons (pe_bltn (v := .ty "int") (by rfl) B.tint (by decide +kernel) rfl) pa_nil))) (pe_and (pe_not (pe_callB call_isi (by rfl) B.isinstance (by decide +kernel) (pa_cons (pv 0) (pa_cons (pe_bltn (v := .ty "bool") (by rfl) B.tbool (by decide +kernel) rfl) pa_nil)))) (pe_one (pe_cmpR op_eq (pv 0) (pv 1) (nomark _))))))) pss_nil)
    (pss_cons (ps_if (pt_val (pe_callB call_isi (by rfl) B.isinstance (by decide +kernel) (pa_cons (pv 1) (pa_cons (pe_bltn (v := .ty "str") (by rfl) B.tstr (by decide +kernel) rfl) pa_nil)))) (pss_one (ps_ret (pe_and (pe_callB call_isi (by rfl) B.isinstance (by decide +kernel) (pa_cons (pv 0) (pa_cons (pe_bltn (v := .ty "str") (by rfl) B.tstr (by decide +kernel) rfl) pa_nil))) (pe_one (pe_cmpR op_eq (pv 0) (pv 1) (nomark _)))))) pss_nil)
    (pss_cons (ps_if (PW.pt (pw_or (pt_cmpR op_ne (pe_callB call_isi (by rfl) B.isinstance (by decide +kernel) (pa_cons (pv 1) (pa_cons (pe_bltn (v := .ty "tuple") (by rfl) B.ttuple (by decide +kernel) rfl) pa_nil))) (pe_callB call_isi (by rfl) B.isinstance (by decide +kernel) (pa_cons (pv 0) (pa_cons (pe_bltn (v := .ty "tuple") (by rfl) B.ttuple (by decide +kernel) rfl) pa_nil))) (nomark _)) (pw_or1 (pt_cmpR op_ne (pe_callB call_isi (by rfl) B.isinstance (by decide +kernel) (pa_cons (pv 1) (pa_cons (pe_bltn (v := .ty "list") (by rfl) B.tlist (by decide +kernel) rfl) pa_nil))) (pe_callB call_isi (by rfl) B.isinstance (by decide +kernel) (pa_cons (pv 0) (pa_cons (pe_bltn (v := .ty "list") (by rfl) B.tlist (by decide +kernel) rfl) pa_nil))) (nomark _))))) (pss_one (ps_ret pe_bl)) pss_nil)
    (pss_cons (ps_if (pt_cmpR op_ne (pe_callB call_len_seq (by rfl) B.len PySem.boot_len (pa_cons (pv 0) pa_nil)) (pe_callB call_len_seq (by rfl) B.len PySem.boot_len (pa_cons (pv 1) pa_nil)) (nomark _)) (pss_one (ps_ret pe_bl)) pss_nil)
    (pss_cons (ps_for PassesOwn.never rfl (pi_range1 (by rfl) B.range (pa_cons (pe_callB call_len_seq (by rfl) B.len PySem.boot_len (pa_cons (pv 1) pa_nil)) pa_nil)) (pg_name (i := 2) sc_alike.nd rfl (Or.inl rfl)) (pss_one (ps_if (pt_not (pt_val (pe_own G_alike (hr.mono (by first | decide | omega)) (by rfl) pass0 (pa_cons (pe_ix ix_tup (pv 0) (pv 2) (fun _ _ => rfl)) (pa_cons (pe_ix ix_tup (pv 1) (pv 2) (fun _ _ => rfl)) pa_nil))))) (pss_one (ps_ret pe_bl)) pss_nil)))
    (pss_one (ps_ret pe_bl))))))))), ?_⟩
      refine ⟨_, rfl, rfl, _, rfl, itF rfl ?_⟩
      refine ⟨_, rfl, .ref b, .ty "bool", _, _, false, rfl, .ty _, tyT hy1, kit_ty (by decide +kernel), _, rfl, itF rfl ?_⟩
      refine ⟨_, rfl, .ref b, .ty "int", _, _, false, rfl, .ty _, tyT hy1, kit_ty (by decide +kernel), _, rfl, itF rfl ?_⟩
      refine ⟨_, rfl, .ref b, .ty "str", _, _, false, rfl, .ty _, tyT hy1, kit_ty (by decide +kernel), _, rfl, itF rfl ?_⟩
      refine ⟨_, rfl, .ref b, .ty "tuple", _, _, true, rfl, .ty _, tyT hy1, kit_ty (by decide +kernel), _, rfl, .ref a, .ty "tuple", _, _, true, rfl, .ty _, tyT hx1, kit_ty (by decide +kernel), rfl, _, rfl, itF rfl ?_⟩
      refine ⟨_, rfl, .ref b, .ty "list", _, _, false, rfl, .ty _, tyT hy1, kit_ty (by decide +kernel), _, rfl, .ref a, .ty "list", _, _, false, rfl, .ty _, tyT hx1, kit_ty (by decide +kernel), rfl, _, rfl, itF rfl ?_⟩
      refine ⟨_, rfl, a, _, rfl, .inr hx1, _, rfl, b, _, rfl, .inr hy1, rfl, _, rfl, itF (by rw [hxl, hyl]; simp) ?_⟩
      refine ⟨_, rfl, b, _, rfl, .inr hy1, _, rfl, by omega, by omega, for_range (fun i σ H' => ∃ s2 : Option V, σ = [some (.ref a), some (.ref b), s2] ∧ H' = H) ⟨none, rfl, rfl⟩ (fun i σ H' hi z => ?_) (fun σ H' z => ?_)⟩
      · obtain ⟨s2, rfl, rfl⟩ := z
        have h00 : (0 : Int) + (i : Nat) = (i : Nat) := by omega
        rw [h00]
        have hiy : i < ys.length := hi
        have hix : i < xs.length := by omega
        obtain ⟨d1, e1, p1, q1, r1⟩ := dpAll_at hx2 hsm.2 (List.getElem?_eq_getElem hix)
        obtain ⟨d2, e2, p2, _, _⟩ := dpAll_at hy2 hsm.2 (List.getElem?_eq_getElem hiy)
        rw [e1] at e2
        obtain rfl := Option.some.inj e2
        refine ⟨_, rfl, _, rfl, a, _, _, _, rfl, rfl, hx1, atI_nat (List.getElem?_eq_getElem hix), _, rfl, _, rfl, b, _, _, _, rfl, rfl, hy1, atI_nat (List.getElem?_eq_getElem hiy), _, _, d1, rfl, p1, p2, r1, by omega, ?_⟩
        exact ⟨_, rfl, _, rfl, rfl⟩
      · obtain ⟨s2, rfl, rfl⟩ := z
        exact q
    | list ds =>
      cases hx with
      | lst hx1 hx2 =>
      cases hy with
      | lst hy1 hy2 =>
      rename_i a xs b ys
      rw [smD] at hsm
      have hxl := dpAll_len hx2
      have hyl := dpAll_len hy2
      rw [PyData.depth] at hdp
      refine ⟨_, (pss_cons (ps_if (pt_cmpR op_isN (pv 1) pe_non (nomark _)) (pss_one (ps_ret (pe_cmpR op_isN (pv 0) pe_non (nomark _)))) pss_nil)
    (pss_cons (ps_if (pt_val (pe_callB call_isi (by rfl) B.isinstance (by decide +kernel) (pa_cons (pv 1) (pa_cons (pe_bltn (v := .ty "bool") (by rfl) B.tbool (by decide +kernel) rfl) pa_nil)))) (pss_one (ps_ret (pe_and (pe_callB call_isi (by rfl) B.isinstance (by decide +kernel) (pa_cons (pv 0) (pa_cons (pe_bltn (v := .ty "bool") (by rfl) B.tbool (by decide +kernel) rfl) pa_nil))) (pe_one (pe_cmpR op_eq (pv 0) (pv 1) (nomark _)))))) pss_nil)
    (pss_cons (ps_if (pt_val (pe_callB call_isi (by rfl) B.isinstance (by decide +kernel) (pa_cons (pv 1) (pa_cons (pe_bltn (v := .ty "int") (by rfl) B.tint (by decide +kernel) rfl) pa_nil)))) (pss_one (ps_ret (pe_and (pe_callB call_isi (by rfl) B.isinstance (by decide +kernel) (pa_cons (pv 0) (pa_cons (pe_bltn (v := .ty "int") (by rfl) B.tint (by decide +kernel) rfl) pa_nil))) (pe_and (pe_not (pe_callB call_isi (by rfl) B.isinstance (by decide +kernel) (pa_cons (pv 0) (pa_cons (pe_bltn (v := .ty "bool") (by rfl) B.tbool (by decide +kernel) rfl) pa_nil)))) (pe_one (pe_cmpR op_eq (pv 0) (pv 1) (nomark _))))))) pss_nil)
    (pss_cons (ps_if (pt_val (pe_callB call_isi (by rfl) B.isinstance (by decide +kernel) (pa_cons (pv 1) (pa_cons (pe_bltn (v := .ty "str") (by rfl) B.tstr (by decide +kernel) rfl) pa_nil)))) (pss_one (ps_ret (pe_and (pe_callB call_isi (by rfl) B.isinstance (by decide +kernel) (pa_cons (pv 0) (pa_cons (pe_bltn (v := .ty "str") (by rfl) B.tstr (by decide +kernel) rfl) pa_nil))) (pe_one (pe_cmpR op_eq (pv 0) (pv 1) (nomark _)))))) pss_nil)
    (pss_cons (ps_if (PW.pt (pw_or (pt_cmpR op_ne (pe_callB call_isi (by rfl) B.isinstance (by decide +kernel) (pa_cons (pv 1) (pa_cons (pe_bltn (v := .ty "tuple") (by rfl) B.ttuple (by decide +kernel) rfl) pa_nil))) (pe_callB call_isi (by rfl) B.isinstance (by decide +kernel) (pa_cons (pv 0) (pa_cons (pe_bltn (v := .ty "tuple") (by rfl) B.ttuple (by decide +kernel) rfl) pa_nil))) (nomark _)) (pw_or1 (pt_cmpR op_ne (pe_callB call_isi (by rfl) B.isinstance (by decide +kernel) (pa_cons (pv 1) (pa_cons (pe_bltn (v := .ty "list") (by rfl) B.tlist (by decide +kernel) rfl) pa_nil))) (pe_callB call_isi (by rfl) B.isinstance (by decide +kernel) (pa_cons (pv 0) (pa_cons (pe_bltn (v := .ty "list") (by rfl) B.tlist (by decide +kernel) rfl) pa_nil))) (nomark _))))) (pss_one (ps_ret pe_bl)) pss_nil)
    (pss_cons (ps_if (pt_cmpR op_ne (pe_callB call_len_seq (by rfl) B.len PySem.boot_len (pa_cons (pv 0) pa_nil)) (pe_callB call_len_seq (by rfl) B.len PySem.boot_len (pa_cons (pv 1) pa_nil)) (nomark _)) (pss_one (ps_ret pe_bl)) pss_nil)
    (pss_cons (ps_for PassesOwn.never rfl (pi_range1 (by rfl) B.range (pa_cons (pe_callB call_len_seq (by rfl) B.len PySem.boot_len (pa_cons (pv 1) pa_nil)) pa_nil)) (pg_name (i := 2) sc_alike.nd rfl (Or.inl rfl)) (pss_one (ps_if (pt_not (pt_val (pe_own G_alike (hr.mono (by first | decide | omega)) (by rfl) pass0 (pa_cons (pe_ix ix_list (pv 0) (pv 2) (fun _ _ => rfl)) (pa_cons (pe_ix ix_list (pv 1) (pv 2) (fun _ _ => rfl)) pa_nil))))) (pss_one (ps_ret pe_bl)) pss_nil)))
    (pss_one (ps_ret pe_bl))))))))), ?_⟩
      refine ⟨_, rfl, rfl, _, rfl, itF rfl ?_⟩
      refine ⟨_, rfl, .ref b, .ty "bool", _, _, false, rfl, .ty _, tyL hy1, kit_ty (by decide +kernel), _, rfl, itF rfl ?_⟩
      refine ⟨_, rfl, .ref b, .ty "int", _, _, false, rfl, .ty _, tyL hy1, kit_ty (by decide +kernel), _, rfl, itF rfl ?_⟩
      refine ⟨_, rfl, .ref b, .ty "str", _, _, false, rfl, .ty _, tyL hy1, kit_ty (by decide +kernel), _, rfl, itF rfl ?_⟩
      refine ⟨_, rfl, .ref b, .ty "tuple", _, _, false, rfl, .ty _, tyL hy1, kit_ty (by decide +kernel), _, rfl, .ref a, .ty "tuple", _, _, false, rfl, .ty _, tyL hx1, kit_ty (by decide +kernel), rfl, _, rfl, itF rfl ?_⟩
      refine ⟨_, rfl, .ref b, .ty "list", _, _, true, rfl, .ty _, tyL hy1, kit_ty (by decide +kernel), _, rfl, .ref a, .ty "list", _, _, true, rfl, .ty _, tyL hx1, kit_ty (by decide +kernel), rfl, _, rfl, itF rfl ?_⟩
      refine ⟨_, rfl, a, _, rfl, .inl hx1, _, rfl, b, _, rfl, .inl hy1, rfl, _, rfl, itF (by rw [hxl, hyl]; simp) ?_⟩
      refine ⟨_, rfl, b, _, rfl, .inl hy1, _, rfl, by omega, by omega, for_range (fun i σ H' => ∃ s2 : Option V, σ = [some (.ref a), some (.ref b), s2] ∧ H' = H) ⟨none, rfl, rfl⟩ (fun i σ H' hi z => ?_) (fun σ H' z => ?_)⟩
      · obtain ⟨s2, rfl, rfl⟩ := z
        have h00 : (0 : Int) + (i : Nat) = (i : Nat) := by omega
        rw [h00]
        have hiy : i < ys.length := hi
        have hix : i < xs.length := by omega
        obtain ⟨d1, e1, p1, q1, r1⟩ := dpAll_at hx2 hsm.2 (List.getElem?_eq_getElem hix)
        obtain ⟨d2, e2, p2, _, _⟩ := dpAll_at hy2 hsm.2 (List.getElem?_eq_getElem hiy)
        rw [e1] at e2
        obtain rfl := Option.some.inj e2
        refine ⟨_, rfl, _, rfl, a, _, _, _, rfl, rfl, hx1, atI_nat (List.getElem?_eq_getElem hix), _, rfl, _, rfl, b, _, _, _, rfl, rfl, hy1, atI_nat (List.getElem?_eq_getElem hiy), _, _, d1, rfl, p1, p2, r1, by omega, ?_⟩
        exact ⟨_, rfl, _, rfl, rfl⟩
      · obtain ⟨s2, rfl, rfl⟩ := z
        exact q
    | dict kvs => exact absurd hsm (by rw [smD]; exact id)
end
end Gf
set_option Elab.async false
set_option linter.all false
set_option maxRecDepth 100000
set_option maxHeartbeats 4000000
namespace Gf
open PySem PySem.Spec PyProof.Rows L2
/-- f(e, ..), what it raises told to the clause -/
theorem pe_ownS {X : Cx} {CX : CXT} {k : Nat} {x : Str} {ps : List Str} {sp : Sp} {E : L2.St → XK} {e : Expr} {es : List Expr} {t : TA} {p pos : Pos} (G : Pr X.prog X.w X.K X.mg X.base CX k x ps sp) (hr : Room k X.A) (hg : Gl X x) (hx : ∀ σ, PassesAt CX X σ (E σ)) (ha : PA X (e :: es) t)
    (hdb : (x == ("__debug__" : Str)) = false := by decide) (he : starEach (e :: es) X.env = (false, eval e X.env) :: starEach es X.env := by rfl) (hpl : (backTo pos (starEach es X.env)).any (·.1) = false := by rfl) :
    PE X (.Call (.Name x p) (e :: es) [] pos) (tCallS sp E t) := by
  obtain ⟨f, fd, F, m, kp, b⟩ := G.ex
  exact pe_callS F hr hg m kp b hx ha hdb he hpl
section
variable {P : Program} {w : World} {K : PySem.W.Frag} {mg : Str → Option Value} {base : Heap} {lt mt : Tok} {H H1 H2 H' : Hp} {C fI cda cc : Addr}
theorem sc_wrong : FnScope ["_law_t", "_law_first", "_law_second", "_law_e"] ["_law_t", "_law_first", "_law_second"] (defScope s_wrong) := ⟨rfl, rfl, rfl, by decide +kernel, rfl, by decide +kernel, by decide +kernel⟩
def sp_wrong (K : PySem.W.Frag) : Sp := fun vs H Q _ => ∃ (a : Addr) (f : FS) (x y v : V), vs = [.ref a, x, y] ∧ FoA K H f a ∧ Good 12 f ∧ ((Bad K H x ∧ v = x) ∨ ((∃ d : DS, DeA K H d x ∧ deOk d) ∧ Bad K H y ∧ v = y)) ∧
  ∀ H' c, Same H H' → SqT K H' c [.str "script", v] → Q (.ref c) H'
theorem ok_wrong (D : Df K mg "_law_wrong" s_wrong ["_law_t", "_law_first", "_law_second"]) (T : IsTxt P K mg C fI cda cc) (G_are_free : Pr P w K mg base (L2.CX P w) 24 "are_free" ["t", "d", "e"] (sp_free K C)) : Pr P w K mg base CX0 25 "_law_wrong" ["_law_t", "_law_first", "_law_second"] (sp_wrong K) := by
  refine D.ok sc_wrong (fun vs H Q E h => ?_) (fun fa cdv A outer s H vs Q E hr h => ?_)
  · obtain ⟨a, f, x, y, v, rfl, _⟩ := h; rfl
  obtain ⟨a, f, x, y, v, rfl, hf, hg, hb, q⟩ := h
  refine ⟨_, (pss_one (ps_try_as (i := 3) (tb := fun W => tRet (tTup (tCons (tC (.str "came")) (tCons (tCallS (sp_free K C) (WE W) (tCons (tVar 0) (tCons (tVar 1) (tCons (tVar 2) tNil)))) tNil)))) (ts := fun a cls d => tRet (tTup (tCons (tC (.str "script")) (tCons (tXf a cls d C "value" (tVar 3)) tNil)))) (Wout := fun _ _ _ _ => False) rfl rfl sc_wrong.nd rfl rfl ⟨rfl, by decide, Or.inl T.gC⟩ takes0
    (fun W pn xe tk _ => pss_one (ps_ret (by exact (pe_tup (pa_cons pe_str (pa_cons (pe_ownS G_are_free (hr.mono (by decide)) rfl (fun σ => passAt tk σ) (by exact (pa_cons (pv 0) (pa_cons (pv 1) (pa_cons (pv 2) pa_nil))))) pa_nil))))))
    (fun a oe cls d pn hz hf => pss_one (ps_ret (by exact (pe_tup (pa_cons pe_str (pa_cons (pe_xf T.xf T.noV hz hf (pv 3)) pa_nil)))))))), ?_⟩
  have z2 : 2 ≤ sizeLine := Nat.le_of_lt (small1000 (by decide))
  refine ⟨_, rfl, _, rfl, _, rfl, a, f, x, y, rfl, hf, hg, ?_⟩
  rcases hb with ⟨hb, rfl⟩ | ⟨hd, hb, rfl⟩
  · refine .inr (.inl ⟨hb, fun H1 dd s1 hdd => ?_⟩)
    refine ⟨true, T.te, fun _ a0 _ => ?_, fun z => Bool.noConfusion z⟩
    refine ⟨_, rfl, rfl, rfl, dd, _, _, rfl, hdd, rfl, z2, fun t nt => ?_⟩
    exact q _ t (s1.trans (same_upd nt)) (.inl (.inl upd_same))
  · refine .inr (.inr ⟨hd, hb, fun H1 dd s1 hdd => ?_⟩)
    refine ⟨true, T.te, fun _ a0 _ => ?_, fun z => Bool.noConfusion z⟩
    refine ⟨_, rfl, rfl, rfl, dd, _, _, rfl, hdd, rfl, z2, fun t nt => ?_⟩
    exact q _ t (s1.trans (same_upd nt)) (.inl (.inl upd_same))
end
end Gf
set_option Elab.async false
set_option linter.all false
set_option maxRecDepth 100000
set_option maxHeartbeats 4000000
namespace Gf
open PySem PySem.Spec PyProof.Rows L2
theorem daL_len : ∀ f : FS, (daL f).length ≤ (marks f).length
  | .nil => Nat.le_refl _
  | .cons m w k r => by
    have h := daL_len r
    rw [daL, List.length_cons, marks_cons]
    omega
theorem daL_sm : ∀ f : FS, (marks f).length ≤ 1000 → smAll (daL f)
  | .nil, _ => by rw [daL, smAll]; trivial
  | .cons m w k r, h => by
    rw [marks_cons] at h
    have h1 := daL_sm k (by omega)
    have h2 := daL_sm r (by omega)
    have h3 := daL_len k
    simp only [daL, smAll, smD, List.length_cons, List.length_nil, true_and, and_true]
    exact ⟨⟨by omega, by omega, h1⟩, h2⟩
mutual
theorem dp_same {K : PySem.W.Frag} {H H' : Hp} (s : Same H H') : ∀ (d : PyData) (v : V), Dp K H v d → Dp K H' v d
  | .none, _, h => by cases h; exact .non
  | .bool b, _, h => by cases h; exact .bl b
  | .int i, _, h => by cases h; exact .int i
  | .str x, _, h => by cases h; exact .str x
  | .list ds, _, h => by
    cases h with
    | lst h1 h2 => exact .lst (s.seq h1) (dpAll_same s ds _ h2)
  | .tuple ds, _, h => by
    cases h with
    | tup h1 h2 => exact .tup (s.seqT h1) (dpAll_same s ds _ h2)
  | .dict _, _, h => by cases h
theorem dpAll_same {K : PySem.W.Frag} {H H' : Hp} (s : Same H H') : ∀ (ds : List PyData) (vs : List V), DpAll K H vs ds → DpAll K H' vs ds
  | [], _, h => by cases h; exact .nil
  | d :: ds, _, h => by
    cases h with
    | cons h1 h2 => exact .cons (dp_same s d _ h1) (dpAll_same s ds _ h2)
end
def deD : DS → List PyData
  | .add m w p b => [.str "add", .int m, .str w, .int p, .int b]
  | .drop m => [.str "drop", .int m]
  | .move m p b => [.str "move", .int m, .int p, .int b]
  | .word m w => [.str "word", .int m, .str w]
theorem deD_dp {K : PySem.W.Frag} {H : Hp} : ∀ d : DS, DpAll K H (deV d) (deD d)
  | .add m w p b => .cons (.str _) (.cons (.int _) (.cons (.str _) (.cons (.int _) (.cons (.int _) .nil))))
  | .drop m => .cons (.str _) (.cons (.int _) .nil)
  | .move m p b => .cons (.str _) (.cons (.int _) (.cons (.int _) (.cons (.int _) .nil)))
  | .word m w => .cons (.str _) (.cons (.int _) (.cons (.str _) .nil))
/-- a value that is no deed, and its data -/
def BadD (K : PySem.W.Frag) (H : Hp) (v : V) : Prop := Bad K H v ∧ ∃ dt, Dp K H v dt ∧ smD dt ∧ dt.depth ≤ 2
theorem BadD.same {K : PySem.W.Frag} {H H' : Hp} (s : Same H H') {v : V} : BadD K H v → BadD K H' v := fun ⟨b, dt, h1, h2, h3⟩ => ⟨b.same s, dt, dp_same s dt v h1, h2, h3⟩
section
variable {P : Program} {w : World} {K : PySem.W.Frag} {mg : Str → Option Value} {base : Heap} {lt mt : Tok} {H H1 H2 H' : Hp} {C fI cda cc : Addr}
theorem sc_law : FnScope ["_law_script", "_law_state", "_law_flat_here", "_law_t", "_law_deeds", "_law_k", "_law_d", "_law_e", "_law_held", "_law_bad", "_law_due"] ["_law_script"] (defScope s_law) := ⟨rfl, rfl, rfl, by decide +kernel, rfl, by decide +kernel, by decide +kernel⟩
def sp_law (K : PySem.W.Frag) : Sp := fun vs H Q _ => ∃ (a : Addr) (ns : List Int), vs = [.ref a] ∧ SqL K H a (ns.map V.int) ∧ ∀ H', Q (.bl true) H'
theorem ok_law {fa : Addr} {fd : FuncData} (D : Fun K "law" "law" s_law fa fd) (B : Bi mg)
    (G_draw : Pr P w K mg base CX0 2 "_law_draw" ["_law_script", "_law_state", "_law_many"] (sp_draw K))
    (G_flat : Pr P w K mg base CX0 5 "_law_flat" ["_law_script", "_law_state", "_law_most"] (sp_lflat K))
    (G_plot : Pr P w K mg base CX0 16 "_law_plot" ["_law_flat_here", "_law_parent"] (sp_lplot K 16))
    (G_deed : Pr P w K mg base CX0 5 "_law_deed" ["_law_script", "_law_state", "_law_flat_here"] (sp_ldeed K))
    (G_near : Pr P w K mg base CX0 6 "_law_near" ["_law_script", "_law_state", "_law_flat_here", "_law_deed_here"] (sp_lnear K))
    (G_free : Pr P w K mg base CX0 18 "_law_free" ["_law_flat_here", "_law_d", "_law_e"] (sp_lfree K))
    (G_both : Pr P w K mg base CX0 17 "_law_both" ["_law_flat_here", "_law_d", "_law_e"] (sp_lboth K))
    (G_alike : Pr P w K mg base CX0 40 "_law_alike" ["_law_told", "_law_due"] (sp_alike K 40))
    (G_wrong : Pr P w K mg base CX0 25 "_law_wrong" ["_law_t", "_law_first", "_law_second"] (sp_wrong K))
    (G_are_free : Pr P w K mg base (L2.CX P w) 24 "are_free" ["t", "d", "e"] (sp_free K C))
    (G_agree : Pr P w K mg base CX0 24 "agree" ["t", "p", "q"] (sp_agree K))
    (G_merged : Pr P w K mg base CX0 25 "merged" ["t", "p", "q"] (sp_merged K)) :
    FnOk P w K mg base CX0 41 fa fd ["_law_script"] (sp_law K) := by
  refine D.ok sc_law (fun vs H Q E h => ?_) (fun cdv A outer s H vs Q E hr h => ?_)
  · obtain ⟨a, ns, rfl, _⟩ := h; rfl
  obtain ⟨sc, ns, rfl, hsc, k⟩ := h
  refine ⟨_, (pss_cons (ps_set (i := 1) sc_law.nd rfl (Or.inr rfl) (pe_disp (pps_cons pe_str pe_int (pps_cons pe_str pe_int (pps_cons pe_str pe_int pps_nil))) (by rfl) (by rfl) (fun z => by cases z) (by decide)))
    (pss_cons (ps_set (i := 2) sc_law.nd rfl (Or.inr rfl) (pe_own G_flat (hr.mono (by first | decide | omega)) (by rfl) pass0 (pa_cons (pv 0) (pa_cons (pv 1) (pa_cons pe_int pa_nil)))))
    (pss_cons (ps_set (i := 3) sc_law.nd rfl (Or.inl rfl) (pe_own G_plot (hr.mono (by first | decide | omega)) (by rfl) pass0 (pa_cons (pv 2) (pa_cons pe_int pa_nil))))
    (pss_cons (ps_setLc (i := 4) (own := [("_law_k", 5)]) (g := gName 5) (tt := tYes) (te := tCall (sp_ldeed K) [] E0 (tCons (tVar 0) (tCons (tVar 1) (tCons (tVar 2) tNil)))) rfl sc_law.nd rfl rfl (sw_true rfl rfl rfl (by decide +kernel)) (pi_range1 (by rfl) B.range (pa_cons pe_int pa_nil)) (blkOk_by (N := ["_law_script", "_law_state", "_law_flat_here", "_law_t", "_law_deeds", "_law_k", "_law_d", "_law_e", "_law_held", "_law_bad", "_law_due"]) (sc := defScope s_law) (by decide +kernel)) (fun _ _ _ _ _ => pg_name (i := 5) sc_law.nd rfl (Or.inl rfl)) (fun _ _ _ _ _ => pts_nil) (fun _ _ _ _ _ => (pe_own G_deed (hr.mono (by first | decide | omega)) (by rfl) pass0 (pa_cons (pv 0) (pa_cons (pv 1) (pa_cons (pv 2) pa_nil))))))
    (pss_cons (ps_expr (pe_bm PySem.F.plainAttrs_list PySem.F.slot_list_append PySem.F.type_list_append mt_append (pv 4) (pa_cons (pe_own G_near (hr.mono (by first | decide | omega)) (by rfl) pass0 (pa_cons (pv 0) (pa_cons (pv 1) (pa_cons (pv 2) (pa_cons (pe_ix ix_list (pv 4) pe_int (fun _ _ => rfl)) pa_nil))))) pa_nil)))
    (pss_cons (ps_expr (pe_bm PySem.F.plainAttrs_list PySem.F.slot_list_append PySem.F.type_list_append mt_append (pv 4) (pa_cons (pe_own G_near (hr.mono (by first | decide | omega)) (by rfl) pass0 (pa_cons (pv 0) (pa_cons (pv 1) (pa_cons (pv 2) (pa_cons (pe_ix ix_list (pv 4) pe_int (fun _ _ => rfl)) pa_nil))))) pa_nil)))
    (pss_cons (ps_for PassesOwn.never rfl (pi_list (pv 4)) (pg_name (i := 6) sc_law.nd rfl (Or.inl rfl)) (pss_one (ps_for PassesOwn.never rfl (pi_list (pv 4)) (pg_name (i := 7) sc_law.nd rfl (Or.inl rfl)) (pss_cons (ps_set (i := 8) sc_law.nd rfl (Or.inl rfl) (pe_own G_free (hr.mono (by first | decide | omega)) (by rfl) pass0 (pa_cons (pv 2) (pa_cons (pv 6) (pa_cons (pv 7) pa_nil)))))
    (pss_cons (ps_if (PW.pt (pw_or (pt_not (pt_val (pe_own G_alike (hr.mono (by first | decide | omega)) (by rfl) pass0 (pa_cons (pe_own G_are_free (hr.mono (by first | decide | omega)) (by rfl) passL (pa_cons (pv 3) (pa_cons (pv 6) (pa_cons (pv 7) pa_nil)))) (pa_cons (pv 8) pa_nil))))) (pw_or1 (pt_not (pt_val (pe_own G_alike (hr.mono (by first | decide | omega)) (by rfl) pass0 (pa_cons (pe_own G_agree (hr.mono (by first | decide | omega)) (by rfl) pass0 (pa_cons (pv 3) (pa_cons (pe_tup (pa_cons (pv 6) pa_nil)) (pa_cons (pe_lst (pa_cons (pv 7) pa_nil)) pa_nil)))) (pa_cons (pv 8) pa_nil)))))))) (pss_one (ps_ret pe_bl)) pss_nil)
    (pss_one (ps_if (PW.pt (pw_and (pt_val (pv 8)) (pw_and1 (pt_not (pt_val (pe_own G_alike (hr.mono (by first | decide | omega)) (by rfl) pass0 (pa_cons (pe_own G_merged (hr.mono (by first | decide | omega)) (by rfl) pass0 (pa_cons (pv 3) (pa_cons (pe_lst (pa_cons (pv 6) pa_nil)) (pa_cons (pe_tup (pa_cons (pv 7) pa_nil)) pa_nil)))) (pa_cons (pe_own G_both (hr.mono (by first | decide | omega)) (by rfl) pass0 (pa_cons (pv 2) (pa_cons (pv 6) (pa_cons (pv 7) pa_nil)))) pa_nil)))))))) (pss_one (ps_ret pe_bl)) pss_nil)))))))
    (pss_cons (ps_set (i := 9) sc_law.nd rfl (Or.inl rfl) (pe_ix ix_list (pe_lst (pa_cons pe_non (pa_cons (pe_tup pa_nil) (pa_cons pe_int (pa_cons (pe_tup (pa_cons pe_str (pa_cons pe_int pa_nil))) (pa_cons (pe_tup (pa_cons pe_str (pa_cons pe_int (pa_cons pe_str pa_nil)))) (pa_cons (pe_callTy call_list_of (by rfl) B.tlist (by decide +kernel) (pa_cons (pe_ix ix_list (pv 4) pe_int (fun _ _ => rfl)) pa_nil)) (pa_cons (pe_tup (pa_cons pe_str (pa_cons pe_int (pa_cons pe_int pa_nil)))) pa_nil)))))))) (pe_own G_draw (hr.mono (by first | decide | omega)) (by rfl) pass0 (pa_cons (pv 0) (pa_cons (pv 1) (pa_cons pe_int pa_nil)))) (fun _ _ => rfl)))
    (pss_cons (ps_set (i := 10) sc_law.nd rfl (Or.inl rfl) (pe_tup (pa_cons pe_str (pa_cons (pv 9) pa_nil))))
    (pss_cons (ps_if (PW.pt (pw_or (pt_not (pt_val (pe_own G_alike (hr.mono (by first | decide | omega)) (by rfl) pass0 (pa_cons (pe_own G_wrong (hr.mono (by first | decide | omega)) (by rfl) pass0 (pa_cons (pv 3) (pa_cons (pv 9) (pa_cons (pe_ix ix_list (pv 4) pe_int (fun _ _ => rfl)) pa_nil)))) (pa_cons (pv 10) pa_nil))))) (pw_or1 (pt_not (pt_val (pe_own G_alike (hr.mono (by first | decide | omega)) (by rfl) pass0 (pa_cons (pe_own G_wrong (hr.mono (by first | decide | omega)) (by rfl) pass0 (pa_cons (pv 3) (pa_cons (pe_ix ix_list (pv 4) pe_int (fun _ _ => rfl)) (pa_cons (pv 9) pa_nil)))) (pa_cons (pv 10) pa_nil)))))))) (pss_one (ps_ret pe_bl)) pss_nil)
    (pss_cons (ps_if (pt_not (pt_val (pe_own G_alike (hr.mono (by first | decide | omega)) (by rfl) pass0 (pa_cons (pe_own G_wrong (hr.mono (by first | decide | omega)) (by rfl) pass0 (pa_cons (pv 3) (pa_cons (pv 9) (pa_cons (pe_tup (pa_cons pe_str (pa_cons pe_int pa_nil))) pa_nil)))) (pa_cons (pv 10) pa_nil))))) (pss_one (ps_ret pe_bl)) pss_nil)
    (pss_one (ps_ret (pe_own G_alike (hr.mono (by first | decide | omega)) (by rfl) pass0 (pa_cons (pe_own G_are_free (hr.mono (by first | decide | omega)) (by rfl) passL (pa_cons (pv 3) (pa_cons (pe_ix ix_list (pv 4) pe_int (fun _ _ => rfl)) (pa_cons (pe_ix ix_list (pv 4) pe_int (fun _ _ => rfl)) pa_nil)))) (pa_cons (pe_own G_free (hr.mono (by first | decide | omega)) (by rfl) pass0 (pa_cons (pv 2) (pa_cons (pe_ix ix_list (pv 4) pe_int (fun _ _ => rfl)) (pa_cons (pe_ix ix_list (pv 4) pe_int (fun _ _ => rfl)) pa_nil)))) pa_nil)))))))))))))))), ?_⟩
  -- walk
  have z1 : 1 ≤ sizeLine := Nat.le_of_lt (small1000 (by decide))
  have z2 : 2 ≤ sizeLine := Nat.le_of_lt (small1000 (by decide))
  have z3 : 3 ≤ sizeLine := Nat.le_of_lt (small1000 (by decide))
  refine fun st nst => ⟨upd_same, [(.inr "rest", .int 0), (.inr "next", .int 0), (.inr "count", .int 0)], rfl, by decide, ?_⟩
  have sA : Same H (upd (upd H st (.dK [])) st (stD 0 0 0)) := (same_upd nst).over nst
  have e1 : Ev K (upd (upd H st (.dK [])) st (stD 0 0 0)) sc st ns := ⟨sA.seq hsc, 0, 0, 0, upd_same, Int.le_refl 0, Int.le_refl 0, Int.natCast_nonneg _⟩
  have em : (HO.dK (mergeK [] [(.inr "rest", .int 0), (.inr "next", .int 0), (.inr "count", .int 0)]) : HO) = stD 0 0 0 := rfl
  rw [em]
  generalize upd (upd H st (.dK [])) st (stD 0 0 0) = H1 at e1 sA
  clear sA em
  -- the rows, the plot
  refine ⟨_, rfl, _, rfl, sc, st, ns, rfl, e1, fun H2 a fl f x2 e2 hfl hR hg => ?_⟩
  have hfl8 : fl.length ≤ 8 := by have := hg.len; have := hR.len; omega
  have hdep := hg.dep
  refine ⟨_, rfl, a, fl, f, 0, rfl, hfl, hR.mt, by omega, by omega, fun H3 t s3 ht => ?_⟩
  have e3 := e2.same s3
  have hfl3 := hfl.same s3
  have hpos : ∀ x ∈ fl, 0 < x.m ∧ 0 ≤ x.p := fun x hx => ⟨hR.pos _ (hR.mm.mp (List.mem_map.mpr ⟨x, hx, rfl⟩)), by
    rcases hR.pc x hx with z | z
    · omega
    · exact Int.le_of_lt (hR.pos _ (hR.mm.mp z))⟩
  have hg12 : Good 12 f := ⟨by have := hg.len; omega, hg.nd, hg.ok⟩
  clear x2 e1 e2 hfl s3
  -- three deeds
  refine ⟨3, rfl, by decide, by decide, fun D nD => lc_range (fun i H' => i ≤ 3 ∧ Ex st H3 H' ∧ Ev K H' sc st ns ∧ ∃ acc, H' D = some (.lst acc) ∧ acc.length = i ∧ ∀ x ∈ acc, ∃ d, DeA K H' d x ∧ deOk d) ⟨by omega, Ex.refl.new nD, e3.same (same_upd nD), [], upd_same, rfl, (fun x hx => nomatch hx)⟩ (fun i H' hi z => ?_) (fun H4 z => ?_)⟩
  · obtain ⟨_, x4, e4, acc, hD, hl, hall⟩ := z
    rw [show wipe _ _ = [some (.ref sc), some (.ref st), some (.ref a), some (.ref t), none, none, none, none, none, none, none] from rfl]
    refine ⟨rfl, ⟨_, rfl, _, rfl, _, rfl, sc, st, a, ns, fl, rfl, e4, e3.ro x4 hfl3, by omega, fun x hx => (hpos x hx).1, fun H5 v d x5 e5 hv hd => ?_⟩⟩
    have hi3 : i < 3 := hi
    have hD5 := e4.lst x5 hD
    refine ⟨acc, hD5, fin_le (by omega), by omega, (x4.trans x5).over nD, ?_, _, upd_same, by rw [List.length_append, hl]; rfl, fun x hx => ?_⟩
    · obtain ⟨r, i, c, q1, q2⟩ := e5.d
      have hne : st ≠ D := fun z => by rw [← z, q1] at hD5; cases hD5
      exact ⟨e3.seqL ((x4.trans x5).over nD) e3.s, r, i, c, by rw [upd_ne hne]; exact q1, q2⟩
    · have kp := Kp.lst (K := K) (o := .lst (acc ++ [v])) hD5
      rcases List.mem_append.mp hx with hx | hx
      · obtain ⟨d', h1, h2⟩ := hall x hx
        exact ⟨d', (h1.mono (e4.kp x5)).mono kp, h2⟩
      · rw [List.mem_singleton.mp hx]
        exact ⟨d, hv.mono kp, hd⟩
  obtain ⟨_, x4, e4, acc, hD, hl, hall⟩ := z
  have hl3 : acc.length = 3 := hl
  match acc, hl3, hD, hall with
  | [v0, v1, v2], _, hD, hall =>
  clear hl
  obtain ⟨d0, ⟨a0, ev0, h0⟩, o0⟩ := hall v0 (by simp)
  obtain ⟨d1, ⟨a1, ev1, h1⟩, o1⟩ := hall v1 (by simp)
  obtain ⟨d2, h2, o2⟩ := hall v2 (by simp)
  subst ev0 ev1
  clear hall
  -- near
  refine ⟨_, rfl, .inl ⟨rfl, _, .inl (.inl hD)⟩, _, rfl, _, rfl, _, rfl, _, rfl, D, _, _, _, rfl, rfl, .inl (.inl hD), atI_nat (j := 0) rfl, sc, st, a, a0, ns, fl, d0, rfl, e4, e3.ro x4 hfl3, h0, o0, by omega, hpos, fun H5 v3 d3 x5 e5 h3 o3 => ?_⟩
  have hD5 := e4.lst x5 hD
  refine ⟨D, _, _, rfl, rfl, hD5, fin_le (show 3 ≤ 1000 by decide), ?_⟩
  have x5' : Ex st H3 (upd H5 D (.lst ([.ref a0, .ref a1, v2] ++ [v3]))) := (x4.trans x5).over nD
  have e5' : Ev K (upd H5 D (.lst ([.ref a0, .ref a1, v2] ++ [v3]))) sc st ns := by
    obtain ⟨r, i, c, q1, q2⟩ := e5.d
    have hne : st ≠ D := fun z => by rw [← z, q1] at hD5; cases hD5
    exact ⟨e3.seqL x5' e3.s, r, i, c, by rw [upd_ne hne]; exact q1, q2⟩
  have kp5 := (e4.kp x5).trans (Kp.lst (K := K) (o := .lst ([.ref a0, .ref a1, v2] ++ [v3])) hD5)
  have kp5b := Kp.lst (K := K) (o := .lst ([.ref a0, .ref a1, v2] ++ [v3])) hD5
  have hD5' : upd H5 D (.lst ([.ref a0, .ref a1, v2] ++ [v3])) D = some (.lst [.ref a0, .ref a1, v2, v3]) := upd_same
  have h0 := kp5.t _ _ h0
  have h1 := kp5.t _ _ h1
  have h2 := h2.mono kp5
  have h3 := h3.mono kp5b
  clear hD hD5 kp5 kp5b e4 x4 x5 e5
  generalize upd H5 D (.lst ([.ref a0, .ref a1, v2] ++ [v3])) = H6 at x5' e5' hD5' h0 h1 h2 h3
  refine ⟨_, rfl, .inl ⟨rfl, _, .inl (.inl hD5')⟩, _, rfl, _, rfl, _, rfl, _, rfl, D, _, _, _, rfl, rfl, .inl (.inl hD5'), atI_nat (j := 1) rfl, sc, st, a, a1, ns, fl, d1, rfl, e5', e3.ro x5' hfl3, h1, o1, by omega, hpos, fun H7 v4 d4 x7 e7 h4 o4 => ?_⟩
  have hD7 := e5'.lst x7 hD5'
  refine ⟨D, _, _, rfl, rfl, hD7, fin_le (show 4 ≤ 1000 by decide), ?_⟩
  have x8 : Ex st H3 (upd H7 D (.lst ([.ref a0, .ref a1, v2, v3] ++ [v4]))) := (x5'.trans x7).over nD
  have e8 : Ev K (upd H7 D (.lst ([.ref a0, .ref a1, v2, v3] ++ [v4]))) sc st ns := by
    obtain ⟨r, i, c, q1, q2⟩ := e7.d
    have hne : st ≠ D := fun z => by rw [← z, q1] at hD7; cases hD7
    exact ⟨e3.seqL x8 e3.s, r, i, c, by rw [upd_ne hne]; exact q1, q2⟩
  have kp7 := (e5'.kp x7).trans (Kp.lst (K := K) (o := .lst ([.ref a0, .ref a1, v2, v3] ++ [v4])) hD7)
  have hD8 : upd H7 D (.lst ([.ref a0, .ref a1, v2, v3] ++ [v4])) D = some (.lst [.ref a0, .ref a1, v2, v3, v4]) := upd_same
  have hall : ∀ x ∈ [V.ref a0, .ref a1, v2, v3, v4], ∃ d, DeA K (upd H7 D (.lst ([.ref a0, .ref a1, v2, v3] ++ [v4]))) d x ∧ deOk d := fun x hx => by
    have kb := Kp.lst (K := K) (o := .lst ([.ref a0, .ref a1, v2, v3] ++ [v4])) hD7
    simp only [List.mem_cons, List.not_mem_nil, or_false] at hx
    rcases hx with rfl | rfl | rfl | rfl | rfl
    · exact ⟨d0, ⟨a0, rfl, kp7.t _ _ h0⟩, o0⟩
    · exact ⟨d1, ⟨a1, rfl, kp7.t _ _ h1⟩, o1⟩
    · exact ⟨d2, h2.mono kp7, o2⟩
    · exact ⟨d3, h3.mono kp7, o3⟩
    · exact ⟨d4, h4.mono kb, o4⟩
  have h0 := kp7.t _ _ h0
  clear h1 h2 h3 h4 hD7 kp7 e5' x5' x7 e7 hD5'
  have hfl8' := e3.ro x8 hfl3
  have ht8 := ht.mono (e3.kp x8)
  generalize upd H7 D (.lst ([.ref a0, .ref a1, v2, v3] ++ [v4])) = H8 at x8 e8 hD8 h0 hall hfl8' ht8
  clear x8 hfl3 ht e3 nD
  have tr : ∀ (b : Bool), smD (.bool b) ∧ (PyData.bool b).depth < 40 := fun b => ⟨by rw [smD]; trivial, by rw [PyData.depth]; decide⟩
  -- each two
  refine ⟨_, rfl, D, rfl, ⟨_, .inl (.inl hD8)⟩, for_list (K := K) (a := D) (xs := [V.ref a0, .ref a1, v2, v3, v4]) (fun i σ H' => ∃ (s5 s6 s7 s8 : Option V), σ = [some (.ref sc), some (.ref st), some (.ref a), some (.ref t), some (.ref D), s5, s6, s7, s8, none, none] ∧ Same H8 H') ⟨_, _, _, _, rfl, Same.refl _⟩ (fun i σ H' _ z => ?_) (fun i x σ H' hx z => ?_) (fun σ H' z => ?_)⟩
  · obtain ⟨_, _, _, _, _, sm⟩ := z; exact .inl (.inl (sm _ _ hD8))
  · obtain ⟨s5, s6, s7, s8, rfl, sm⟩ := z
    obtain ⟨d, hd, od⟩ := hall x (List.mem_of_getElem? hx)
    refine ⟨_, rfl, D, rfl, ⟨_, .inl (.inl (sm _ _ hD8))⟩, for_list (K := K) (a := D) (xs := [V.ref a0, .ref a1, v2, v3, v4]) (fun i σ H' => ∃ (s7 s8 : Option V), σ = [some (.ref sc), some (.ref st), some (.ref a), some (.ref t), some (.ref D), s5, some x, s7, s8, none, none] ∧ Same H8 H') ⟨_, _, rfl, sm⟩ (fun i σ H' _ z => ?_) (fun i y σ H' hy z => ?_) (fun σ H' z => ?_)⟩
    · obtain ⟨_, _, _, sm⟩ := z; exact .inl (.inl (sm _ _ hD8))
    · obtain ⟨s7, s8, rfl, sm⟩ := z
      obtain ⟨e, he, oe⟩ := hall y (List.mem_of_getElem? hy)
      refine ⟨_, rfl, _, rfl, _, rfl, a, fl, f, x, y, d, e, rfl, hfl8'.same sm, hd.mono sm.kp, he.mono sm.kp, od, oe, hR, by omega, hg12, fun H9 b s9 hb => ?_⟩
      have m9 := sm.trans s9
      refine ⟨_, rfl, _, rfl, _, rfl, t, f, x, y, rfl, ht8.mono m9.kp, hg12, .inl ⟨d, e, hd.mono m9.kp, he.mono m9.kp, od, oe, fun H10 b2 s10 hb2 => ?_⟩⟩
      obtain rfl : b2 = b := Bool.eq_iff_iff.mpr (hb2.trans hb.symm)
      refine ⟨_, rfl, _, _, .bool b2, rfl, .bl b2, .bl b2, (tr b2).1, (tr b2).2, _, rfl, itF rfl ?_⟩
      have m10 := m9.trans s10
      refine ⟨_, rfl, _, rfl, z1, fun p1 n1 => ⟨_, rfl, z1, fun p2 n2 => ?_⟩⟩
      have m11 := (m10.trans (same_upd (o := .tup [x]) n1)).trans (same_upd (o := .lst [y]) n2)
      refine ⟨t, p1, p2, f, x, y, d, e, rfl, ht8.mono m11.kp, .inr (.inl (.inl (same_upd n2 _ _ upd_same))), .inl (.inl (.inl upd_same)), hd.mono m11.kp, he.mono m11.kp, od, oe, hg12, fun H12 b3 s12 hb3 => ?_⟩
      obtain rfl : b3 = b2 := Bool.eq_iff_iff.mpr (hb3.trans hb.symm)
      refine ⟨_, rfl, _, _, .bool b3, rfl, .bl b3, .bl b3, (tr b3).1, (tr b3).2, _, rfl, itF rfl ?_⟩
      have m12 := m11.trans s12
      cases b3 with
      | false =>
        refine ⟨_, rfl, _, rfl, itF rfl ?_⟩
        refine itF rfl ?_
        exact ⟨_, _, rfl, m12⟩
      | true =>
      refine ⟨_, rfl, _, rfl, itT rfl ?_⟩
      obtain ⟨g, hfr⟩ := hb.mp rfl
      have hgg : Good 14 g := runF_good (ds := [d, e]) hg12 (by intro z hz; simp at hz; rcases hz with rfl | rfl <;> assumption) hfr.1
      refine ⟨_, rfl, _, rfl, z1, fun p3 n3 => ⟨_, rfl, z1, fun p4 n4 => ?_⟩⟩
      have m13 := (m12.trans (same_upd (o := .lst [x]) n3)).trans (same_upd (o := .tup [y]) n4)
      refine ⟨t, p3, p4, f, x, y, d, e, rfl, ht8.mono m13.kp, .inl (.inl (.inl (same_upd n4 _ _ upd_same))), .inr (.inl (.inl upd_same)), hd.mono m13.kp, he.mono m13.kp, od, oe, hg12, g, hfr, fun H15 c s15 hc => ?_⟩
      have m15 := m13.trans s15
      refine ⟨_, rfl, _, rfl, _, rfl, a, fl, f, x, y, d, e, rfl, hfl8'.same m15, hd.mono m15.kp, he.mono m15.kp, od, oe, hR, by omega, fun v H16 s16 hv => ?_⟩
      rcases hv with ⟨g', c', rfl, hc', r⟩ | ⟨rfl, r⟩
      · obtain rfl : g' = g := Option.some.inj (r.symm.trans hfr.1)
        have q1 := hgg.len
        have q2 := daL_len g'
        have q3 := daL_depth g'
        have q4 := hgg.dep
        refine ⟨_, _, .tuple (daL g'), rfl, (hc.mono s16.kp).dp, hc'.dp, by rw [smD]; exact ⟨by omega, daL_sm g' (by omega)⟩, by rw [PyData.depth]; omega, _, rfl, itF rfl ?_⟩
        exact ⟨_, _, rfl, m15.trans s16⟩
      · rw [hfr.1] at r; cases r
    · obtain ⟨s7, s8, rfl, sm⟩ := z
      exact ⟨_, _, _, _, rfl, sm⟩
  obtain ⟨s5, s6, s7, s8, rfl, sm⟩ := z
  have e9 := e8.same sm
  have hD9 := sm _ _ hD8
  have h9 := sm.seqT h0
  have hf9 := hfl8'.same sm
  have ht9 := ht8.mono sm.kp
  have hall9 : ∀ x ∈ [V.ref a0, .ref a1, v2, v3, v4], ∃ d, DeA K H' d x ∧ deOk d := fun x hx => by
    obtain ⟨d, q1, q2⟩ := hall x hx
    exact ⟨d, q1.mono sm.kp, q2⟩
  clear hall h0 hfl8' ht8 hD8 e8 sm
  -- a value that is no deed
  refine ⟨Nat.zero_le _, fun p0 n0 => ⟨z2, fun p1 n1 => ⟨z3, fun p2 n2 => ?_⟩⟩⟩
  have w1 := same_upd (H := H') (o := .tup []) n0
  have w2 := same_upd (o := .tup [.str "drop", .int 0]) n1
  have w3 := same_upd (o := .tup [.str "word", .int 1, .str ""]) n2
  have wA := (w1.trans w2).trans w3
  refine ⟨_, rfl, D, _, _, _, rfl, rfl, .inl (.inl (wA _ _ hD9)), atI_nat (j := 0) rfl, a0, deV d0, rfl, .inr (wA.seqT h9), fun p3 n3 => ⟨z3, fun p4 n4 => ⟨Nat.le_of_lt (small1000 (show 7 ≤ 1000 by decide)), fun p5 n5 => ?_⟩⟩⟩
  have w4 := same_upd (o := .lst (deV d0)) n3
  have w5 := same_upd (o := .tup [.str "move", .int 1, .int 0]) n4
  have w6 := same_upd (o := .lst [.non, .ref p0, .int 3, .ref p1, .ref p2, .ref p3, .ref p4]) n5
  have g0 := ((((w2.trans w3).trans w4).trans w5).trans w6).seqT (K := K) (.inl (.inl upd_same) : SqT K _ p0 [])
  have g1 := (((w3.trans w4).trans w5).trans w6).seqT (K := K) (.inl (.inl upd_same) : SqT K _ p1 [.str "drop", .int 0])
  have g2 := ((w4.trans w5).trans w6).seqT (K := K) (.inl (.inl upd_same) : SqT K _ p2 [.str "word", .int 1, .str ""])
  have g3 := (w5.trans w6).seq (K := K) (.inl (.inl upd_same) : SqL K _ p3 (deV d0))
  have g4 := w6.seqT (K := K) (.inl (.inl upd_same) : SqT K _ p4 [.str "move", .int 1, .int 0])
  have wB := ((wA.trans w4).trans w5).trans w6
  have eB := e9.same wB
  refine ⟨_, rfl, _, rfl, sc, st, ns, 7, rfl, eB, by decide, by decide, fun j Hc j1 j2 xc ec => ?_⟩
  have kc := eB.kp xc
  have g0 := kc.t _ _ g0
  have g1 := kc.t _ _ g1
  have g2 := kc.t _ _ g2
  have g3 := eB.seqL xc g3
  have g4 := kc.t _ _ g4
  have hDc := eB.lst xc (wB _ _ hD9)
  have htc := (ht9.mono wB.kp).mono kc
  have hfc := eB.ro xc (hf9.same wB)
  have hallc : ∀ x ∈ [V.ref a0, .ref a1, v2, v3, v4], ∃ d, DeA K Hc d x ∧ deOk d := fun x hx => by
    obtain ⟨d, q1, q2⟩ := hall9 x hx
    exact ⟨d, (q1.mono wB.kp).mono kc, q2⟩
  obtain ⟨j, rfl⟩ := Int.eq_ofNat_of_zero_le j1
  have smd : ∀ d : DS, smAll (deD d) ∧ (deD d).length ≤ 5 ∧ PyData.depthAll (deD d) = 0 := fun d => by
    cases d <;> simp [deD, smAll, smD, PyData.depthAll, PyData.depth]
  have hbv : ∃ v, ([V.non, .ref p0, .int 3, .ref p1, .ref p2, .ref p3, .ref p4] : List V)[j]? = some v ∧ BadD K Hc v := by
    have hj : j = 0 ∨ j = 1 ∨ j = 2 ∨ j = 3 ∨ j = 4 ∨ j = 5 ∨ j = 6 := by omega
    rcases hj with rfl | rfl | rfl | rfl | rfl | rfl | rfl
    · exact ⟨_, rfl, .non, .none, .non, by simp [smD], by simp [PyData.depth]⟩
    · exact ⟨_, rfl, .emp g0, .tuple [], .tup g0 .nil, by simp [smD, smAll], by simp [PyData.depth, PyData.depthAll]⟩
    · exact ⟨_, rfl, .int 3, .int 3, .int 3, by simp [smD], by simp [PyData.depth]⟩
    · exact ⟨_, rfl, .drop g1, .tuple [.str "drop", .int 0], .tup g1 (.cons (.str _) (.cons (.int _) .nil)), by simp [smD, smAll], by simp [PyData.depth, PyData.depthAll]⟩
    · exact ⟨_, rfl, .word g2, .tuple [.str "word", .int 1, .str ""], .tup g2 (.cons (.str _) (.cons (.int _) (.cons (.str _) .nil))), by simp [smD, smAll], by simp [PyData.depth, PyData.depthAll]⟩
    · obtain ⟨q1, q2, q3⟩ := smd d0
      exact ⟨_, rfl, .lst g3, .list (deD d0), .lst g3 (deD_dp d0), by rw [smD]; exact ⟨by omega, q1⟩, by rw [PyData.depth]; omega⟩
    · exact ⟨_, rfl, .move g4, .tuple [.str "move", .int 1, .int 0], .tup g4 (.cons (.str _) (.cons (.int _) (.cons (.int _) .nil))), by simp [smD, smAll], by simp [PyData.depth, PyData.depthAll]⟩
  obtain ⟨v, hv, hbd⟩ := hbv
  refine ⟨p5, _, _, _, rfl, rfl, eB.seqL xc (.inl (.inl upd_same)), atI_nat hv, ?_⟩
  clear g0 g1 g2 g3 g4 w1 w2 w3 w4 w5 w6 wA wB eB xc kc h9 hf9 ht9 hall9 e9 hD9 hv
  -- what is due
  refine ⟨_, rfl, z2, fun q nq => ?_⟩
  have sq := same_upd (H := Hc) (o := .tup [.str "script", v]) nq
  have hq : SqT K (upd Hc q (.tup [.str "script", v])) q [.str "script", v] := .inl (.inl upd_same)
  generalize upd Hc q (.tup [.str "script", v]) = Hd at sq hq
  have hbd := hbd.same sq
  have hDd := sq _ _ hDc
  have htd := htc.mono sq.kp
  have hfd := hfc.same sq
  have halld : ∀ x ∈ [V.ref a0, .ref a1, v2, v3, v4], ∃ d, DeA K Hd d x ∧ deOk d := fun x hx => by
    obtain ⟨d, q1, q2⟩ := hallc x hx
    exact ⟨d, q1.mono sq.kp, q2⟩
  clear hDc htc hfc hallc sq ec
  obtain ⟨hb, dt, hdt, smt, dpt⟩ := hbd
  have due : ∀ {Hx : Hp} {c : Addr}, Same Hd Hx → SqT K Hx c [.str "script", v] → Dp K Hx (.ref c) (.tuple [.str "script", dt]) := fun s h => .tup h (.cons (.str _) (.cons (dp_same s dt v hdt) .nil))
  have smdue : smD (.tuple [.str "script", dt]) := by simp only [smD, smAll, and_true, true_and]; exact ⟨by simp, smt⟩
  have dpdue : (PyData.tuple [.str "script", dt]).depth < 40 := by simp only [PyData.depth, PyData.depthAll]; omega
  obtain ⟨dd1, hdd1, odd1⟩ := halld (.ref a1) (by simp)
  refine ⟨_, rfl, _, rfl, _, rfl, D, _, _, _, rfl, rfl, .inl (.inl hDd), atI_nat (j := 1) rfl, t, f, v, .ref a1, v, rfl, htd, hg12, .inl ⟨hb, rfl⟩, fun H20 c1 s20 hc1 => ?_⟩
  refine ⟨_, rfl, _, _, _, rfl, due s20 hc1, due s20 (s20.seqT hq), smdue, dpdue, _, rfl, itF rfl ?_⟩
  refine ⟨_, rfl, _, rfl, D, _, _, _, rfl, rfl, .inl (.inl (s20 _ _ hDd)), atI_nat (j := 1) rfl, _, rfl, t, f, .ref a1, v, v, rfl, htd.mono s20.kp, hg12, .inr ⟨⟨dd1, hdd1.mono s20.kp, odd1⟩, hb.same s20, rfl⟩, fun H21 c2 s21 hc2 => ?_⟩
  have u21 := s20.trans s21
  refine ⟨_, rfl, _, _, _, rfl, due u21 hc2, due u21 (u21.seqT hq), smdue, dpdue, _, rfl, itF rfl ?_⟩
  refine ⟨_, rfl, _, rfl, z2, fun p6 n6 => ?_⟩
  have u22 := u21.trans (same_upd (o := .tup [.str "add", .int 1]) n6)
  refine ⟨t, f, v, .ref p6, v, rfl, htd.mono u22.kp, hg12, .inl ⟨hb.same u22, rfl⟩, fun H23 c3 s23 hc3 => ?_⟩
  have u23 := u22.trans s23
  refine ⟨_, rfl, _, _, _, rfl, due u23 hc3, due u23 (u23.seqT hq), smdue, dpdue, _, rfl, itF rfl ?_⟩
  -- asked again
  obtain ⟨dd0, hdd0, odd0⟩ := halld (.ref a0) (by simp)
  obtain ⟨dd3, hdd3, odd3⟩ := halld v3 (by simp)
  refine ⟨_, rfl, _, rfl, D, _, _, _, rfl, rfl, .inl (.inl (u23 _ _ hDd)), atI_nat (j := 0) rfl, _, rfl, D, _, _, _, rfl, rfl, .inl (.inl (u23 _ _ hDd)), atI_nat (j := 3) rfl, t, f, _, _, rfl, htd.mono u23.kp, hg12, .inl ⟨dd0, dd3, hdd0.mono u23.kp, hdd3.mono u23.kp, odd0, odd3, fun H24 b s24 hb1 => ?_⟩⟩
  have u24 := u23.trans s24
  refine ⟨_, rfl, _, rfl, D, _, _, _, rfl, rfl, .inl (.inl (u24 _ _ hDd)), atI_nat (j := 0) rfl, _, rfl, D, _, _, _, rfl, rfl, .inl (.inl (u24 _ _ hDd)), atI_nat (j := 3) rfl, a, fl, f, _, _, dd0, dd3, rfl, hfd.same u24, hdd0.mono u24.kp, hdd3.mono u24.kp, odd0, odd3, hR, by omega, hg12, fun H25 b2 s25 hb2 => ?_⟩
  obtain rfl : b2 = b := Bool.eq_iff_iff.mpr (hb2.trans hb1.symm)
  exact ⟨_, _, .bool b2, rfl, .bl b2, .bl b2, (tr b2).1, (tr b2).2, k _⟩
end
end Gf
set_option Elab.async false
set_option linter.all false
set_option maxRecDepth 100000
set_option maxHeartbeats 4000000
namespace Gf
open PySem PySem.Spec PyProof.Rows L2
theorem df_mk {K : PySem.W.Frag} {h : Heap} {mg : Str → Option Value} (X : K.In h) (G : h.Ns mainGlobals mg) {x : Str} {st : Stmt} {ps : List Str} {f : Addr} {oc : Value} {od an : Option Addr} {osl : Array (Option Value)} {kV doc pm cdv ct : Value}
    (b : ∀ (kV doc pm : Value) (an : Option Addr) (cdv ct : Value) (us : List Value), us.length = ps.length → bindArgs (PySem.W.fnOf x x (defArgs st) (defBody st) (defScope st) .none kV doc pm an cdv ct) ⟨us, []⟩ = pure (ps.zip us))
    (a : PySem.W.nsIn K mainGlobals x = some (some (.ref f))) (l : K.lookup f = some ⟨oc, od, .func (PySem.W.fnOf x x (defArgs st) (defBody st) (defScope st) .none kV doc pm an cdv ct), osl⟩) (c : PySem.W.codeIn K cdv x = true) (k : PySem.W.keepIn K (.ref f) = true) : Df K mg x st ps :=
  ⟨f, _, fun_mk l c k, PySem.W.mg_of X G a, (fun_mk l c k).binds b⟩
theorem bi_mk {K : PySem.W.Frag} {h : Heap} {mg : Str → Option Value} (X : K.In h) (G : h.Ns mainGlobals mg) (n1 : PySem.W.nsIn K mainGlobals "len" = some none) (n2 : PySem.W.nsIn K mainGlobals "range" = some none) (n3 : PySem.W.nsIn K mainGlobals "isinstance" = some none) (n4 : PySem.W.nsIn K mainGlobals "all" = some none)
    (n5 : PySem.W.nsIn K mainGlobals "enumerate" = some none) (n6 : PySem.W.nsIn K mainGlobals "int" = some none) (n7 : PySem.W.nsIn K mainGlobals "bool" = some none) (n8 : PySem.W.nsIn K mainGlobals "str" = some none) (n9 : PySem.W.nsIn K mainGlobals "tuple" = some none) (n10 : PySem.W.nsIn K mainGlobals "list" = some none) : Bi mg :=
  ⟨PySem.W.mg_none_of X G n1, PySem.W.mg_none_of X G n2, PySem.W.mg_none_of X G n3, PySem.W.mg_none_of X G n4, PySem.W.mg_none_of X G n5, PySem.W.mg_none_of X G n6, PySem.W.mg_none_of X G n7, PySem.W.mg_none_of X G n8, PySem.W.mg_none_of X G n9, PySem.W.mg_none_of X G n10⟩
theorem cn_mk {K : PySem.W.Frag} {h : Heap} {mg : Str → Option Value} {lt mt : Tok} (X : K.In h) (G : h.Ns mainGlobals mg) (n1 : PySem.W.nsIn K mainGlobals "LETTERS" = some (some (.str lettersS lt))) (n2 : PySem.W.nsIn K mainGlobals "MOST_LETTERS" = some (some (.int 8 mt))) : Cn mg lt mt :=
  ⟨PySem.W.mg_of X G n1, PySem.W.mg_of X G n2⟩
/-- an error of the class at S is what «except S» names -/
theorem exm_self {K : PySem.W.Frag} {S : Addr} (h1 : PySem.W.subIn K (.ref S) (.type "BaseException") = some true) (h2 : PySem.W.isClsIn K S = true) (h3 : PySem.W.typeIn K (.ref S) = some (.type "type")) (h4 : PySem.W.subIn K (.ref S) (.ref S) = some true) :
    PySem.W.exmOne K (.ref S) (.ref S) = some true := by
  have e1 : (PySem.W.subIn K (.ref S) (.type "BaseException") == some true) = true := by rw [h1] <;> rfl
  have e2 : ((PySem.W.clsIn K S).isSome && PySem.W.typeIn K (.ref S) == some (.type "type")) = true := by
    have h2' : (PySem.W.clsIn K S).isSome = true := h2
    rw [h2', h3] <;> rfl
  show (if (PySem.W.subIn K (.ref S) (.type "BaseException") == some true) = true then (if ((PySem.W.clsIn K S).isSome && PySem.W.typeIn K (.ref S) == some (.type "type")) = true then PySem.W.subIn K (.ref S) (.ref S) else none) else none) = some true
  rw [if_pos e1, if_pos e2]
  exact h4
theorem is_mk {P : Program} {K : PySem.W.Frag} {h : Heap} {mg : Str → Option Value} (X : K.In h) (G : h.Ns mainGlobals mg) {C fI cda cc N : Addr} {nm q : Str} {bs bm : List Value} {sn : List Str} {sub : List Value} {ab : Bool} {col : Option Bool} {dd : Option Addr} {k0 k1 k2 k3 k5 : Option Value}
    {oc doc pm ct ccl cl : Value} {od an cdd cld : Option Addr} {osl ccs csl : Array (Option Value)} {vs : Array Value} {file : Str} {tf : Tok}
    (aC : PySem.W.nsIn K mainGlobals "InvalidScript" = some (some (.ref C))) (aS : PySem.W.nsIn K mainGlobals "super" = some none)
    (xC : K.lookup C = some (excClassObj nm q C N bs bm true sn sub ab col dd k0 k1 k2 k3 k5 "ValueError.__new__")) (bC : PySem.HandSPX.refsVE bm = true)
    (sa : PySem.W.findIn K (.ref C) "__setattr__" = some (some (.builtin "object.__setattr__"))) (ga : PySem.W.findIn K (.ref C) "__getattribute__" = some (some (.builtin "BaseException.__getattribute__"))) (gg : PySem.W.findIn K (.ref C) "__getattr__" = some none)
    (nv : PySem.W.findIn K (.ref C) "value" = some none) (iC : PySem.W.findIn K (.ref C) "__init__" = some (some (.ref fI))) (tI : PySem.W.typeIn K (.ref fI) = some (.type "function"))
    (kC : PySem.W.keepIn K (.ref C) = true) (eC : PySem.W.subIn K (.ref C) (.type "BaseException") = some true) (tC : PySem.W.typeIn K (.ref C) = some (.type "type")) (hC : PySem.W.hasDictIn K C = true) (cC : PySem.W.isClsIn K C = true) (sC : PySem.W.subIn K (.ref C) (.ref C) = some true)
    (su : PySem.W.ks_superIn K C C "__init__" = some (some (.builtin "ValueError.__init__"))) (vE : PySem.W.subIn K (.ref C) (.type "ValueError") = some true) (mC : PySem.W.mroIn K C (.ref C) = some true) (op : PySem.W.nsIn K cStatics "thirdparty.any" = some none)
    (lI : K.lookup fI = some ⟨oc, od, .func (PySem.W.ksFn "__init__" "InvalidScript.__init__" (defArgs sInit) (defBody sInit) (defScope sInit) .none .none doc pm an (.ref cda) ct cc), osl⟩) (cI : PySem.W.codeIn K (.ref cda) "InvalidScript.__init__" = true)
    (lD : K.lookup cda = some ⟨ccl, cdd, .fields vs, ccs⟩) (vD : vs[2]? = some (.str file tf)) (fD : ((P.main.file : Str) == file) = true) (lc : K.lookup cc = some ⟨cl, cld, .cell (some (.ref C)), csl⟩) (tp : (P.main.scope.names.lookup ("super" : Str)).isSome = false) : IsTxt P K mg C fI cda cc :=
  { gC := PySem.W.mg_of X G aC, gS := PySem.W.mg_none_of X G aS, cls := ⟨nm, q, N, bs, bm, sn, sub, ab, col, dd, k0, k1, k2, k3, k5, xC, bC⟩, sa := sa, xf := ⟨ga, gg, eC, hC⟩, noV := nv, iC := iC, tI := tI, kC := kC, tyC := tC, te := exm_self eC cC tC sC, sup := su, sVE := vE, sC := mC, op := op,
    fn := ⟨oc, od, doc, pm, an, ct, osl, lI, cI⟩, code := ⟨ccl, cdd, vs, ccs, file, tf, lD, vD, fD⟩, cell := ⟨cl, cld, csl, lc⟩, tp := tp }

theorem bd_Pis_int : ∀ (kV doc pm : Value) (an : Option Addr) (cdv ct : Value) (us : List Value), us.length = (["value"] : List Str).length → bindArgs (PySem.W.fnOf "is_int" "is_int" (defArgs s_is_int) (defBody s_is_int) (defScope s_is_int) .none kV doc pm an cdv ct) ⟨us, []⟩ = pure ((["value"] : List Str).zip us) := fun _ _ _ _ _ _ us hl => match us, hl with | [_], _ => rfl

theorem bd_Pis_count : ∀ (kV doc pm : Value) (an : Option Addr) (cdv ct : Value) (us : List Value), us.length = (["value"] : List Str).length → bindArgs (PySem.W.fnOf "is_count" "is_count" (defArgs s_is_count) (defBody s_is_count) (defScope s_is_count) .none kV doc pm an cdv ct) ⟨us, []⟩ = pure ((["value"] : List Str).zip us) := fun _ _ _ _ _ _ us hl => match us, hl with | [_], _ => rfl

theorem bd_Phas_size : ∀ (kV doc pm : Value) (an : Option Addr) (cdv ct : Value) (us : List Value), us.length = (["value", "size"] : List Str).length → bindArgs (PySem.W.fnOf "has_size" "has_size" (defArgs s_has_size) (defBody s_has_size) (defScope s_has_size) .none kV doc pm an cdv ct) ⟨us, []⟩ = pure ((["value", "size"] : List Str).zip us) := fun _ _ _ _ _ _ us hl => match us, hl with | [_, _], _ => rfl

theorem bd_Pis_word : ∀ (kV doc pm : Value) (an : Option Addr) (cdv ct : Value) (us : List Value), us.length = (["value"] : List Str).length → bindArgs (PySem.W.fnOf "is_word" "is_word" (defArgs s_is_word) (defBody s_is_word) (defScope s_is_word) .none kV doc pm an cdv ct) ⟨us, []⟩ = pure ((["value"] : List Str).zip us) := fun _ _ _ _ _ _ us hl => match us, hl with | [_], _ => rfl

theorem bd_Pis_plot_value : ∀ (kV doc pm : Value) (an : Option Addr) (cdv ct : Value) (us : List Value), us.length = (["value"] : List Str).length → bindArgs (PySem.W.fnOf "is_plot_value" "is_plot_value" (defArgs s_is_plot_value) (defBody s_is_plot_value) (defScope s_is_plot_value) .none kV doc pm an cdv ct) ⟨us, []⟩ = pure ((["value"] : List Str).zip us) := fun _ _ _ _ _ _ us hl => match us, hl with | [_], _ => rfl

theorem bd_Pneed_plot : ∀ (kV doc pm : Value) (an : Option Addr) (cdv ct : Value) (us : List Value), us.length = (["value"] : List Str).length → bindArgs (PySem.W.fnOf "need_plot" "need_plot" (defArgs s_need_plot) (defBody s_need_plot) (defScope s_need_plot) .none kV doc pm an cdv ct) ⟨us, []⟩ = pure ((["value"] : List Str).zip us) := fun _ _ _ _ _ _ us hl => match us, hl with | [_], _ => rfl

theorem bd_Pspots_of : ∀ (kV doc pm : Value) (an : Option Addr) (cdv ct : Value) (us : List Value), us.length = (["t"] : List Str).length → bindArgs (PySem.W.fnOf "spots_of" "spots_of" (defArgs s_spots_of) (defBody s_spots_of) (defScope s_spots_of) .none kV doc pm an cdv ct) ⟨us, []⟩ = pure ((["t"] : List Str).zip us) := fun _ _ _ _ _ _ us hl => match us, hl with | [_], _ => rfl

theorem bd_Pspots_below : ∀ (kV doc pm : Value) (an : Option Addr) (cdv ct : Value) (us : List Value), us.length = (["row", "parent"] : List Str).length → bindArgs (PySem.W.fnOf "spots_below" "spots_below" (defArgs s_spots_below) (defBody s_spots_below) (defScope s_spots_below) .none kV doc pm an cdv ct) ⟨us, []⟩ = pure ((["row", "parent"] : List Str).zip us) := fun _ _ _ _ _ _ us hl => match us, hl with | [_, _], _ => rfl

theorem bd_Pwith_places : ∀ (kV doc pm : Value) (an : Option Addr) (cdv ct : Value) (us : List Value), us.length = (["row", "parent"] : List Str).length → bindArgs (PySem.W.fnOf "with_places" "with_places" (defArgs s_with_places) (defBody s_with_places) (defScope s_with_places) .none kV doc pm an cdv ct) ⟨us, []⟩ = pure ((["row", "parent"] : List Str).zip us) := fun _ _ _ _ _ _ us hl => match us, hl with | [_, _], _ => rfl

theorem bd_Pplaces_of : ∀ (kV doc pm : Value) (an : Option Addr) (cdv ct : Value) (us : List Value), us.length = (["t"] : List Str).length → bindArgs (PySem.W.fnOf "places_of" "places_of" (defArgs s_places_of) (defBody s_places_of) (defScope s_places_of) .none kV doc pm an cdv ct) ⟨us, []⟩ = pure ((["t"] : List Str).zip us) := fun _ _ _ _ _ _ us hl => match us, hl with | [_], _ => rfl

theorem bd_Prow_at : ∀ (kV doc pm : Value) (an : Option Addr) (cdv ct : Value) (us : List Value), us.length = (["t", "parent"] : List Str).length → bindArgs (PySem.W.fnOf "row_at" "row_at" (defArgs s_row_at) (defBody s_row_at) (defScope s_row_at) .none kV doc pm an cdv ct) ⟨us, []⟩ = pure ((["t", "parent"] : List Str).zip us) := fun _ _ _ _ _ _ us hl => match us, hl with | [_, _], _ => rfl

theorem bd_Pspot_with : ∀ (kV doc pm : Value) (an : Option Addr) (cdv ct : Value) (us : List Value), us.length = (["t", "m"] : List Str).length → bindArgs (PySem.W.fnOf "spot_with" "spot_with" (defArgs s_spot_with) (defBody s_spot_with) (defScope s_spot_with) .none kV doc pm an cdv ct) ⟨us, []⟩ = pure ((["t", "m"] : List Str).zip us) := fun _ _ _ _ _ _ us hl => match us, hl with | [_, _], _ => rfl

theorem bd_Pwith_row : ∀ (kV doc pm : Value) (an : Option Addr) (cdv ct : Value) (us : List Value), us.length = (["t", "parent", "row"] : List Str).length → bindArgs (PySem.W.fnOf "with_row" "with_row" (defArgs s_with_row) (defBody s_with_row) (defScope s_with_row) .none kV doc pm an cdv ct) ⟨us, []⟩ = pure ((["t", "parent", "row"] : List Str).zip us) := fun _ _ _ _ _ _ us hl => match us, hl with | [_, _, _], _ => rfl

theorem bd_Ptaken_out : ∀ (kV doc pm : Value) (an : Option Addr) (cdv ct : Value) (us : List Value), us.length = (["t", "m"] : List Str).length → bindArgs (PySem.W.fnOf "taken_out" "taken_out" (defArgs s_taken_out) (defBody s_taken_out) (defScope s_taken_out) .none kV doc pm an cdv ct) ⟨us, []⟩ = pure ((["t", "m"] : List Str).zip us) := fun _ _ _ _ _ _ us hl => match us, hl with | [_, _], _ => rfl

theorem bd_Pput_in : ∀ (kV doc pm : Value) (an : Option Addr) (cdv ct : Value) (us : List Value), us.length = (["t", "spot", "parent", "behind"] : List Str).length → bindArgs (PySem.W.fnOf "put_in" "put_in" (defArgs s_put_in) (defBody s_put_in) (defScope s_put_in) .none kV doc pm an cdv ct) ⟨us, []⟩ = pure ((["t", "spot", "parent", "behind"] : List Str).zip us) := fun _ _ _ _ _ _ us hl => match us, hl with | [_, _, _, _], _ => rfl

theorem bd_Pworded : ∀ (kV doc pm : Value) (an : Option Addr) (cdv ct : Value) (us : List Value), us.length = (["t", "m", "new"] : List Str).length → bindArgs (PySem.W.fnOf "worded" "worded" (defArgs s_worded) (defBody s_worded) (defScope s_worded) .none kV doc pm an cdv ct) ⟨us, []⟩ = pure ((["t", "m", "new"] : List Str).zip us) := fun _ _ _ _ _ _ us hl => match us, hl with | [_, _, _], _ => rfl

theorem bd_Pis_mark : ∀ (kV doc pm : Value) (an : Option Addr) (cdv ct : Value) (us : List Value), us.length = (["value"] : List Str).length → bindArgs (PySem.W.fnOf "is_mark" "is_mark" (defArgs s_is_mark) (defBody s_is_mark) (defScope s_is_mark) .none kV doc pm an cdv ct) ⟨us, []⟩ = pure ((["value"] : List Str).zip us) := fun _ _ _ _ _ _ us hl => match us, hl with | [_], _ => rfl

theorem bd_Pis_deed : ∀ (kV doc pm : Value) (an : Option Addr) (cdv ct : Value) (us : List Value), us.length = (["value"] : List Str).length → bindArgs (PySem.W.fnOf "is_deed" "is_deed" (defArgs s_is_deed) (defBody s_is_deed) (defScope s_is_deed) .none kV doc pm an cdv ct) ⟨us, []⟩ = pure ((["value"] : List Str).zip us) := fun _ _ _ _ _ _ us hl => match us, hl with | [_], _ => rfl

theorem bd_Pneed_deed : ∀ (kV doc pm : Value) (an : Option Addr) (cdv ct : Value) (us : List Value), us.length = (["value"] : List Str).length → bindArgs (PySem.W.fnOf "need_deed" "need_deed" (defArgs s_need_deed) (defBody s_need_deed) (defScope s_need_deed) .none kV doc pm an cdv ct) ⟨us, []⟩ = pure ((["value"] : List Str).zip us) := fun _ _ _ _ _ _ us hl => match us, hl with | [_], _ => rfl

theorem bd_Prefusal_of : ∀ (kV doc pm : Value) (an : Option Addr) (cdv ct : Value) (us : List Value), us.length = (["t", "deed"] : List Str).length → bindArgs (PySem.W.fnOf "refusal_of" "refusal_of" (defArgs s_refusal_of) (defBody s_refusal_of) (defScope s_refusal_of) .none kV doc pm an cdv ct) ⟨us, []⟩ = pure ((["t", "deed"] : List Str).zip us) := fun _ _ _ _ _ _ us hl => match us, hl with | [_, _], _ => rfl

theorem bd_Preason_at : ∀ (kV doc pm : Value) (an : Option Addr) (cdv ct : Value) (us : List Value), us.length = (["t", "deed"] : List Str).length → bindArgs (PySem.W.fnOf "reason_at" "reason_at" (defArgs s_reason_at) (defBody s_reason_at) (defScope s_reason_at) .none kV doc pm an cdv ct) ⟨us, []⟩ = pure ((["t", "deed"] : List Str).zip us) := fun _ _ _ _ _ _ us hl => match us, hl with | [_, _], _ => rfl

theorem bd_Pis_inside : ∀ (kV doc pm : Value) (an : Option Addr) (cdv ct : Value) (us : List Value), us.length = (["places", "parent", "m"] : List Str).length → bindArgs (PySem.W.fnOf "is_inside" "is_inside" (defArgs s_is_inside) (defBody s_is_inside) (defScope s_is_inside) .none kV doc pm an cdv ct) ⟨us, []⟩ = pure ((["places", "parent", "m"] : List Str).zip us) := fun _ _ _ _ _ _ us hl => match us, hl with | [_, _, _], _ => rfl

theorem bd_Prun_deed : ∀ (kV doc pm : Value) (an : Option Addr) (cdv ct : Value) (us : List Value), us.length = (["t", "deed"] : List Str).length → bindArgs (PySem.W.fnOf "run_deed" "run_deed" (defArgs s_run_deed) (defBody s_run_deed) (defScope s_run_deed) .none kV doc pm an cdv ct) ⟨us, []⟩ = pure ((["t", "deed"] : List Str).zip us) := fun _ _ _ _ _ _ us hl => match us, hl with | [_, _], _ => rfl

theorem bd_Pplot_behind_deed : ∀ (kV doc pm : Value) (an : Option Addr) (cdv ct : Value) (us : List Value), us.length = (["t", "deed"] : List Str).length → bindArgs (PySem.W.fnOf "plot_behind_deed" "plot_behind_deed" (defArgs s_plot_behind_deed) (defBody s_plot_behind_deed) (defScope s_plot_behind_deed) .none kV doc pm an cdv ct) ⟨us, []⟩ = pure ((["t", "deed"] : List Str).zip us) := fun _ _ _ _ _ _ us hl => match us, hl with | [_, _], _ => rfl

theorem bd_Pneed_script : ∀ (kV doc pm : Value) (an : Option Addr) (cdv ct : Value) (us : List Value), us.length = (["script"] : List Str).length → bindArgs (PySem.W.fnOf "need_script" "need_script" (defArgs s_need_script) (defBody s_need_script) (defScope s_need_script) .none kV doc pm an cdv ct) ⟨us, []⟩ = pure ((["script"] : List Str).zip us) := fun _ _ _ _ _ _ us hl => match us, hl with | [_], _ => rfl

theorem bd_Prun : ∀ (kV doc pm : Value) (an : Option Addr) (cdv ct : Value) (us : List Value), us.length = (["t", "script"] : List Str).length → bindArgs (PySem.W.fnOf "run" "run" (defArgs s_run) (defBody s_run) (defScope s_run) .none kV doc pm an cdv ct) ⟨us, []⟩ = pure ((["t", "script"] : List Str).zip us) := fun _ _ _ _ _ _ us hl => match us, hl with | [_, _], _ => rfl

theorem bd_Pneed_scripts : ∀ (kV doc pm : Value) (an : Option Addr) (cdv ct : Value) (us : List Value), us.length = (["t", "p", "q"] : List Str).length → bindArgs (PySem.W.fnOf "need_scripts" "need_scripts" (defArgs s_need_scripts) (defBody s_need_scripts) (defScope s_need_scripts) .none kV doc pm an cdv ct) ⟨us, []⟩ = pure ((["t", "p", "q"] : List Str).zip us) := fun _ _ _ _ _ _ us hl => match us, hl with | [_, _, _], _ => rfl

theorem bd_Preached : ∀ (kV doc pm : Value) (an : Option Addr) (cdv ct : Value) (us : List Value), us.length = (["t", "script"] : List Str).length → bindArgs (PySem.W.fnOf "reached" "reached" (defArgs s_reached) (defBody s_reached) (defScope s_reached) .none kV doc pm an cdv ct) ⟨us, []⟩ = pure ((["t", "script"] : List Str).zip us) := fun _ _ _ _ _ _ us hl => match us, hl with | [_, _], _ => rfl

theorem bd_Pmet : ∀ (kV doc pm : Value) (an : Option Addr) (cdv ct : Value) (us : List Value), us.length = (["t", "p", "q"] : List Str).length → bindArgs (PySem.W.fnOf "met" "met" (defArgs s_met) (defBody s_met) (defScope s_met) .none kV doc pm an cdv ct) ⟨us, []⟩ = pure ((["t", "p", "q"] : List Str).zip us) := fun _ _ _ _ _ _ us hl => match us, hl with | [_, _, _], _ => rfl

theorem bd_Pare_free : ∀ (kV doc pm : Value) (an : Option Addr) (cdv ct : Value) (us : List Value), us.length = (["t", "d", "e"] : List Str).length → bindArgs (PySem.W.fnOf "are_free" "are_free" (defArgs s_are_free) (defBody s_are_free) (defScope s_are_free) .none kV doc pm an cdv ct) ⟨us, []⟩ = pure ((["t", "d", "e"] : List Str).zip us) := fun _ _ _ _ _ _ us hl => match us, hl with | [_, _, _], _ => rfl

theorem bd_Pagree : ∀ (kV doc pm : Value) (an : Option Addr) (cdv ct : Value) (us : List Value), us.length = (["t", "p", "q"] : List Str).length → bindArgs (PySem.W.fnOf "agree" "agree" (defArgs s_agree) (defBody s_agree) (defScope s_agree) .none kV doc pm an cdv ct) ⟨us, []⟩ = pure ((["t", "p", "q"] : List Str).zip us) := fun _ _ _ _ _ _ us hl => match us, hl with | [_, _, _], _ => rfl

theorem bd_Pneed_runs : ∀ (kV doc pm : Value) (an : Option Addr) (cdv ct : Value) (us : List Value), us.length = (["t", "p", "q"] : List Str).length → bindArgs (PySem.W.fnOf "need_runs" "need_runs" (defArgs s_need_runs) (defBody s_need_runs) (defScope s_need_runs) .none kV doc pm an cdv ct) ⟨us, []⟩ = pure ((["t", "p", "q"] : List Str).zip us) := fun _ _ _ _ _ _ us hl => match us, hl with | [_, _, _], _ => rfl

theorem bd_Pmerged : ∀ (kV doc pm : Value) (an : Option Addr) (cdv ct : Value) (us : List Value), us.length = (["t", "p", "q"] : List Str).length → bindArgs (PySem.W.fnOf "merged" "merged" (defArgs s_merged) (defBody s_merged) (defScope s_merged) .none kV doc pm an cdv ct) ⟨us, []⟩ = pure ((["t", "p", "q"] : List Str).zip us) := fun _ _ _ _ _ _ us hl => match us, hl with | [_, _, _], _ => rfl

theorem bd_Lmixed : ∀ (kV doc pm : Value) (an : Option Addr) (cdv ct : Value) (us : List Value), us.length = (["_law_cell", "_law_count"] : List Str).length → bindArgs (PySem.W.fnOf "_law_mixed" "_law_mixed" (defArgs s_mixed) (defBody s_mixed) (defScope s_mixed) .none kV doc pm an cdv ct) ⟨us, []⟩ = pure ((["_law_cell", "_law_count"] : List Str).zip us) := fun _ _ _ _ _ _ us hl => match us, hl with | [_, _], _ => rfl

theorem bd_Ldraw : ∀ (kV doc pm : Value) (an : Option Addr) (cdv ct : Value) (us : List Value), us.length = (["_law_script", "_law_state", "_law_many"] : List Str).length → bindArgs (PySem.W.fnOf "_law_draw" "_law_draw" (defArgs s_draw) (defBody s_draw) (defScope s_draw) .none kV doc pm an cdv ct) ⟨us, []⟩ = pure ((["_law_script", "_law_state", "_law_many"] : List Str).zip us) := fun _ _ _ _ _ _ us hl => match us, hl with | [_, _, _], _ => rfl

theorem bd_Lword : ∀ (kV doc pm : Value) (an : Option Addr) (cdv ct : Value) (us : List Value), us.length = (["_law_script", "_law_state"] : List Str).length → bindArgs (PySem.W.fnOf "_law_word" "_law_word" (defArgs s_word) (defBody s_word) (defScope s_word) .none kV doc pm an cdv ct) ⟨us, []⟩ = pure ((["_law_script", "_law_state"] : List Str).zip us) := fun _ _ _ _ _ _ us hl => match us, hl with | [_, _], _ => rfl

theorem bd_Lmark : ∀ (kV doc pm : Value) (an : Option Addr) (cdv ct : Value) (us : List Value), us.length = (["_law_script", "_law_state"] : List Str).length → bindArgs (PySem.W.fnOf "_law_mark" "_law_mark" (defArgs s_mark) (defBody s_mark) (defScope s_mark) .none kV doc pm an cdv ct) ⟨us, []⟩ = pure ((["_law_script", "_law_state"] : List Str).zip us) := fun _ _ _ _ _ _ us hl => match us, hl with | [_, _], _ => rfl

theorem bd_Lfresh : ∀ (kV doc pm : Value) (an : Option Addr) (cdv ct : Value) (us : List Value), us.length = (["_law_script", "_law_state", "_law_taken"] : List Str).length → bindArgs (PySem.W.fnOf "_law_fresh" "_law_fresh" (defArgs s_fresh) (defBody s_fresh) (defScope s_fresh) .none kV doc pm an cdv ct) ⟨us, []⟩ = pure ((["_law_script", "_law_state", "_law_taken"] : List Str).zip us) := fun _ _ _ _ _ _ us hl => match us, hl with | [_, _, _], _ => rfl

theorem bd_Llevel : ∀ (kV doc pm : Value) (an : Option Addr) (cdv ct : Value) (us : List Value), us.length = (["_law_flat_here", "_law_mark_here"] : List Str).length → bindArgs (PySem.W.fnOf "_law_level" "_law_level" (defArgs s_level) (defBody s_level) (defScope s_level) .none kV doc pm an cdv ct) ⟨us, []⟩ = pure ((["_law_flat_here", "_law_mark_here"] : List Str).zip us) := fun _ _ _ _ _ _ us hl => match us, hl with | [_, _], _ => rfl

theorem bd_Lput : ∀ (kV doc pm : Value) (an : Option Addr) (cdv ct : Value) (us : List Value), us.length = (["_law_flat_here", "_law_row", "_law_behind"] : List Str).length → bindArgs (PySem.W.fnOf "_law_put" "_law_put" (defArgs s_put) (defBody s_put) (defScope s_put) .none kV doc pm an cdv ct) ⟨us, []⟩ = pure ((["_law_flat_here", "_law_row", "_law_behind"] : List Str).zip us) := fun _ _ _ _ _ _ us hl => match us, hl with | [_, _, _], _ => rfl

theorem bd_Lflat : ∀ (kV doc pm : Value) (an : Option Addr) (cdv ct : Value) (us : List Value), us.length = (["_law_script", "_law_state", "_law_most"] : List Str).length → bindArgs (PySem.W.fnOf "_law_flat" "_law_flat" (defArgs s_flat) (defBody s_flat) (defScope s_flat) .none kV doc pm an cdv ct) ⟨us, []⟩ = pure ((["_law_script", "_law_state", "_law_most"] : List Str).zip us) := fun _ _ _ _ _ _ us hl => match us, hl with | [_, _, _], _ => rfl

theorem bd_Lplot : ∀ (kV doc pm : Value) (an : Option Addr) (cdv ct : Value) (us : List Value), us.length = (["_law_flat_here", "_law_parent"] : List Str).length → bindArgs (PySem.W.fnOf "_law_plot" "_law_plot" (defArgs s_plot) (defBody s_plot) (defScope s_plot) .none kV doc pm an cdv ct) ⟨us, []⟩ = pure ((["_law_flat_here", "_law_parent"] : List Str).zip us) := fun _ _ _ _ _ _ us hl => match us, hl with | [_, _], _ => rfl

theorem bd_Lalike : ∀ (kV doc pm : Value) (an : Option Addr) (cdv ct : Value) (us : List Value), us.length = (["_law_told", "_law_due"] : List Str).length → bindArgs (PySem.W.fnOf "_law_alike" "_law_alike" (defArgs s_alike) (defBody s_alike) (defScope s_alike) .none kV doc pm an cdv ct) ⟨us, []⟩ = pure ((["_law_told", "_law_due"] : List Str).zip us) := fun _ _ _ _ _ _ us hl => match us, hl with | [_, _], _ => rfl

theorem bd_Lbelow : ∀ (kV doc pm : Value) (an : Option Addr) (cdv ct : Value) (us : List Value), us.length = (["_law_flat_here", "_law_mark_here", "_law_m"] : List Str).length → bindArgs (PySem.W.fnOf "_law_below" "_law_below" (defArgs s_below) (defBody s_below) (defScope s_below) .none kV doc pm an cdv ct) ⟨us, []⟩ = pure ((["_law_flat_here", "_law_mark_here", "_law_m"] : List Str).zip us) := fun _ _ _ _ _ _ us hl => match us, hl with | [_, _, _], _ => rfl

theorem bd_Lreason : ∀ (kV doc pm : Value) (an : Option Addr) (cdv ct : Value) (us : List Value), us.length = (["_law_flat_here", "_law_deed_here"] : List Str).length → bindArgs (PySem.W.fnOf "_law_reason" "_law_reason" (defArgs s_reason) (defBody s_reason) (defScope s_reason) .none kV doc pm an cdv ct) ⟨us, []⟩ = pure ((["_law_flat_here", "_law_deed_here"] : List Str).zip us) := fun _ _ _ _ _ _ us hl => match us, hl with | [_, _], _ => rfl

theorem bd_Ldone : ∀ (kV doc pm : Value) (an : Option Addr) (cdv ct : Value) (us : List Value), us.length = (["_law_flat_here", "_law_deed_here"] : List Str).length → bindArgs (PySem.W.fnOf "_law_done" "_law_done" (defArgs s_done) (defBody s_done) (defScope s_done) .none kV doc pm an cdv ct) ⟨us, []⟩ = pure ((["_law_flat_here", "_law_deed_here"] : List Str).zip us) := fun _ _ _ _ _ _ us hl => match us, hl with | [_, _], _ => rfl

theorem bd_Lran : ∀ (kV doc pm : Value) (an : Option Addr) (cdv ct : Value) (us : List Value), us.length = (["_law_flat_here", "_law_deeds"] : List Str).length → bindArgs (PySem.W.fnOf "_law_ran" "_law_ran" (defArgs s_ran) (defBody s_ran) (defScope s_ran) .none kV doc pm an cdv ct) ⟨us, []⟩ = pure ((["_law_flat_here", "_law_deeds"] : List Str).zip us) := fun _ _ _ _ _ _ us hl => match us, hl with | [_, _], _ => rfl

theorem bd_Ldeed : ∀ (kV doc pm : Value) (an : Option Addr) (cdv ct : Value) (us : List Value), us.length = (["_law_script", "_law_state", "_law_flat_here"] : List Str).length → bindArgs (PySem.W.fnOf "_law_deed" "_law_deed" (defArgs s_deed) (defBody s_deed) (defScope s_deed) .none kV doc pm an cdv ct) ⟨us, []⟩ = pure ((["_law_script", "_law_state", "_law_flat_here"] : List Str).zip us) := fun _ _ _ _ _ _ us hl => match us, hl with | [_, _, _], _ => rfl

theorem bd_Lnear : ∀ (kV doc pm : Value) (an : Option Addr) (cdv ct : Value) (us : List Value), us.length = (["_law_script", "_law_state", "_law_flat_here", "_law_deed_here"] : List Str).length → bindArgs (PySem.W.fnOf "_law_near" "_law_near" (defArgs s_near) (defBody s_near) (defScope s_near) .none kV doc pm an cdv ct) ⟨us, []⟩ = pure ((["_law_script", "_law_state", "_law_flat_here", "_law_deed_here"] : List Str).zip us) := fun _ _ _ _ _ _ us hl => match us, hl with | [_, _, _, _], _ => rfl

theorem bd_Lboth : ∀ (kV doc pm : Value) (an : Option Addr) (cdv ct : Value) (us : List Value), us.length = (["_law_flat_here", "_law_d", "_law_e"] : List Str).length → bindArgs (PySem.W.fnOf "_law_both" "_law_both" (defArgs s_both) (defBody s_both) (defScope s_both) .none kV doc pm an cdv ct) ⟨us, []⟩ = pure ((["_law_flat_here", "_law_d", "_law_e"] : List Str).zip us) := fun _ _ _ _ _ _ us hl => match us, hl with | [_, _, _], _ => rfl

theorem bd_Lfree : ∀ (kV doc pm : Value) (an : Option Addr) (cdv ct : Value) (us : List Value), us.length = (["_law_flat_here", "_law_d", "_law_e"] : List Str).length → bindArgs (PySem.W.fnOf "_law_free" "_law_free" (defArgs s_free) (defBody s_free) (defScope s_free) .none kV doc pm an cdv ct) ⟨us, []⟩ = pure ((["_law_flat_here", "_law_d", "_law_e"] : List Str).zip us) := fun _ _ _ _ _ _ us hl => match us, hl with | [_, _, _], _ => rfl

theorem bd_Lwrong : ∀ (kV doc pm : Value) (an : Option Addr) (cdv ct : Value) (us : List Value), us.length = (["_law_t", "_law_first", "_law_second"] : List Str).length → bindArgs (PySem.W.fnOf "_law_wrong" "_law_wrong" (defArgs s_wrong) (defBody s_wrong) (defScope s_wrong) .none kV doc pm an cdv ct) ⟨us, []⟩ = pure ((["_law_t", "_law_first", "_law_second"] : List Str).zip us) := fun _ _ _ _ _ _ us hl => match us, hl with | [_, _, _], _ => rfl

set_option maxHeartbeats 0 in
theorem all_mk {P : Program} {w : World} {K : PySem.W.Frag} {h : Heap} {mg : Str → Option Value} {fa : Addr} {lt mt : Tok} {C fI cda cc : Addr} (X : K.In h) (G : h.Ns mainGlobals mg) (hfa : mg "law" = some (.ref fa)) (B : Bi mg) (c : Cn mg lt mt) (T : IsTxt P K mg C fI cda cc)
    (DPis_int : Df K mg "is_int" s_is_int ["value"])
    (DPis_count : Df K mg "is_count" s_is_count ["value"])
    (DPhas_size : Df K mg "has_size" s_has_size ["value", "size"])
    (DPis_word : Df K mg "is_word" s_is_word ["value"])
    (DPis_plot_value : Df K mg "is_plot_value" s_is_plot_value ["value"])
    (DPneed_plot : Df K mg "need_plot" s_need_plot ["value"])
    (DPspots_of : Df K mg "spots_of" s_spots_of ["t"])
    (DPspots_below : Df K mg "spots_below" s_spots_below ["row", "parent"])
    (DPwith_places : Df K mg "with_places" s_with_places ["row", "parent"])
    (DPplaces_of : Df K mg "places_of" s_places_of ["t"])
    (DProw_at : Df K mg "row_at" s_row_at ["t", "parent"])
    (DPspot_with : Df K mg "spot_with" s_spot_with ["t", "m"])
    (DPwith_row : Df K mg "with_row" s_with_row ["t", "parent", "row"])
    (DPtaken_out : Df K mg "taken_out" s_taken_out ["t", "m"])
    (DPput_in : Df K mg "put_in" s_put_in ["t", "spot", "parent", "behind"])
    (DPworded : Df K mg "worded" s_worded ["t", "m", "new"])
    (DPis_mark : Df K mg "is_mark" s_is_mark ["value"])
    (DPis_deed : Df K mg "is_deed" s_is_deed ["value"])
    (DPneed_deed : Df K mg "need_deed" s_need_deed ["value"])
    (DPrefusal_of : Df K mg "refusal_of" s_refusal_of ["t", "deed"])
    (DPreason_at : Df K mg "reason_at" s_reason_at ["t", "deed"])
    (DPis_inside : Df K mg "is_inside" s_is_inside ["places", "parent", "m"])
    (DPrun_deed : Df K mg "run_deed" s_run_deed ["t", "deed"])
    (DPplot_behind_deed : Df K mg "plot_behind_deed" s_plot_behind_deed ["t", "deed"])
    (DPneed_script : Df K mg "need_script" s_need_script ["script"])
    (DPrun : Df K mg "run" s_run ["t", "script"])
    (DPneed_scripts : Df K mg "need_scripts" s_need_scripts ["t", "p", "q"])
    (DPreached : Df K mg "reached" s_reached ["t", "script"])
    (DPmet : Df K mg "met" s_met ["t", "p", "q"])
    (DPare_free : Df K mg "are_free" s_are_free ["t", "d", "e"])
    (DPagree : Df K mg "agree" s_agree ["t", "p", "q"])
    (DPneed_runs : Df K mg "need_runs" s_need_runs ["t", "p", "q"])
    (DPmerged : Df K mg "merged" s_merged ["t", "p", "q"])
    (DLmixed : Df K mg "_law_mixed" s_mixed ["_law_cell", "_law_count"])
    (DLdraw : Df K mg "_law_draw" s_draw ["_law_script", "_law_state", "_law_many"])
    (DLword : Df K mg "_law_word" s_word ["_law_script", "_law_state"])
    (DLmark : Df K mg "_law_mark" s_mark ["_law_script", "_law_state"])
    (DLfresh : Df K mg "_law_fresh" s_fresh ["_law_script", "_law_state", "_law_taken"])
    (DLlevel : Df K mg "_law_level" s_level ["_law_flat_here", "_law_mark_here"])
    (DLput : Df K mg "_law_put" s_put ["_law_flat_here", "_law_row", "_law_behind"])
    (DLflat : Df K mg "_law_flat" s_flat ["_law_script", "_law_state", "_law_most"])
    (DLplot : Df K mg "_law_plot" s_plot ["_law_flat_here", "_law_parent"])
    (DLalike : Df K mg "_law_alike" s_alike ["_law_told", "_law_due"])
    (DLbelow : Df K mg "_law_below" s_below ["_law_flat_here", "_law_mark_here", "_law_m"])
    (DLreason : Df K mg "_law_reason" s_reason ["_law_flat_here", "_law_deed_here"])
    (DLdone : Df K mg "_law_done" s_done ["_law_flat_here", "_law_deed_here"])
    (DLran : Df K mg "_law_ran" s_ran ["_law_flat_here", "_law_deeds"])
    (DLdeed : Df K mg "_law_deed" s_deed ["_law_script", "_law_state", "_law_flat_here"])
    (DLnear : Df K mg "_law_near" s_near ["_law_script", "_law_state", "_law_flat_here", "_law_deed_here"])
    (DLboth : Df K mg "_law_both" s_both ["_law_flat_here", "_law_d", "_law_e"])
    (DLfree : Df K mg "_law_free" s_free ["_law_flat_here", "_law_d", "_law_e"])
    (DLwrong : Df K mg "_law_wrong" s_wrong ["_law_t", "_law_first", "_law_second"])
    {f0 : Addr} {oc : Value} {od an : Option Addr} {osl : Array (Option Value)} {kV doc pm cdv ct : Value}
    (aL : PySem.W.nsIn K mainGlobals "law" = some (some (.ref f0))) (lL : K.lookup f0 = some ⟨oc, od, .func (PySem.W.fnOf "law" "law" (defArgs s_law) (defBody s_law) (defScope s_law) .none kV doc pm an cdv ct), osl⟩) (cL : PySem.W.codeIn K cdv "law" = true) (kL : PySem.W.keepIn K (.ref f0) = true) :
    ∃ fd : FuncData, (∀ (s : Shared) (u : Value), BindsTo s fd ⟨[u], []⟩ [("_law_script", u)]) ∧ ∀ base : Heap, K.In base → base.Ns mainGlobals mg → FnOk P w K mg base CX0 41 fa fd ["_law_script"] (sp_law K) := by
  have e := hfa.symm.trans (PySem.W.mg_of X G aL)
  cases e
  refine ⟨PySem.W.fnOf "law" "law" (defArgs s_law) (defBody s_law) (defScope s_law) .none kV doc pm an cdv ct, fun s u => .of_eq rfl, fun base _ _ => ?_⟩
  have gPis_int := ok_is_int (P := P) (w := w) (base := base) DPis_int B
  have gPis_count := ok_is_count (P := P) (w := w) (base := base) DPis_count gPis_int
  have gPis_mark := ok_is_mark (P := P) (w := w) (base := base) DPis_mark gPis_int
  have gPhas_size := ok_has_size (P := P) (w := w) (base := base) DPhas_size B
  have gPis_word := ok_is_word (P := P) (w := w) (base := base) DPis_word B c
  have gPwith_places := ok_with_places (P := P) (w := w) (base := base) DPwith_places 
  have gPspots_below := ok_spots_below (P := P) (w := w) (base := base) DPspots_below gPwith_places 16
  have gPspots_of := ok_spots_of (P := P) (w := w) (base := base) DPspots_of gPspots_below
  have gPplaces_of := ok_places_of (P := P) (w := w) (base := base) DPplaces_of gPspots_of
  have gProw_at := ok_row_at (P := P) (w := w) (base := base) DProw_at gPspots_of
  have gPspot_with := ok_spot_with (P := P) (w := w) (base := base) DPspot_with gPspots_of
  have gPis_inside := ok_is_inside (P := P) (w := w) (base := base) DPis_inside 
  have gPtaken_out := ok_taken_out (P := P) (w := w) (base := base) DPtaken_out B 16
  have gPwith_row := ok_with_row (P := P) (w := w) (base := base) DPwith_row B 16
  have gPworded := ok_worded (P := P) (w := w) (base := base) DPworded B 16
  have gPput_in := ok_put_in (P := P) (w := w) (base := base) DPput_in B gProw_at gPwith_row
  have gPplot_behind_deed := ok_plot_behind_deed (P := P) (w := w) (base := base) DPplot_behind_deed gPput_in gPtaken_out gPspot_with gPworded
  have gPreason_at := ok_reason_at (P := P) (w := w) (base := base) DPreason_at B gPplaces_of gProw_at gPis_inside
  have gPis_plot_value := ok_is_plot_value (P := P) (w := w) (base := base) DPis_plot_value B gPhas_size gPis_int gPis_word
  have gPneed_plot := ok_need_plot (P := P) (w := w) (base := base) DPneed_plot gPis_plot_value
  have gPis_deed := ok_is_deed (P := P) (w := w) (base := base) DPis_deed B gPis_mark gPis_word gPis_count
  have gPneed_deed := ok_need_deed (P := P) (w := w) (base := base) DPneed_deed T gPis_deed
  have gPneed_script := ok_need_script (P := P) (w := w) (base := base) DPneed_script gPneed_deed
  have gPneed_scripts := ok_need_scripts (P := P) (w := w) (base := base) DPneed_scripts gPneed_plot gPneed_script
  have gPrefusal_of := ok_refusal_of (P := P) (w := w) (base := base) DPrefusal_of gPneed_plot gPneed_deed gPreason_at
  have gPrun_deed := ok_run_deed (P := P) (w := w) (base := base) DPrun_deed gPrefusal_of gPplot_behind_deed
  have gPrun := ok_run (P := P) (w := w) (base := base) DPrun gPneed_plot gPneed_script gPrun_deed
  have gPreached := ok_reached (P := P) (w := w) (base := base) DPreached gPreason_at gPplot_behind_deed
  have gPmet := ok_met (P := P) (w := w) (base := base) DPmet B gPreached
  have gPare_free := ok_are_free (P := P) (w := w) (base := base) DPare_free gPneed_scripts gPmet
  have gPagree := ok_agree (P := P) (w := w) (base := base) DPagree gPneed_scripts gPmet
  have gPneed_runs := ok_need_runs (P := P) (w := w) (base := base) DPneed_runs gPneed_scripts gPrun
  have gPmerged := ok_merged (P := P) (w := w) (base := base) DPmerged gPneed_runs gPmet
  have gLmixed := ok_mixed (P := P) (w := w) (base := base) DLmixed B
  have gLdraw := ok_draw (P := P) (w := w) (base := base) DLdraw B gLmixed
  have gLmark := ok_lmark (P := P) (w := w) (base := base) DLmark gLdraw
  have gLword := ok_lword (P := P) (w := w) (base := base) DLword B gLdraw
  have gLfresh := ok_fresh (P := P) (w := w) (base := base) DLfresh B gLmark
  have gLlevel := ok_level (P := P) (w := w) (base := base) DLlevel B
  have gLbelow := ok_lbelow (P := P) (w := w) (base := base) DLbelow B
  have gLput := ok_lput (P := P) (w := w) (base := base) DLput B
  have gLreason := ok_lreason (P := P) (w := w) (base := base) DLreason B gLbelow
  have gLdone := ok_ldone (P := P) (w := w) (base := base) DLdone B gLput
  have gLplot := ok_lplot (P := P) (w := w) (base := base) DLplot B 16
  have gLran := ok_lran (P := P) (w := w) (base := base) DLran B gLreason gLdone
  have gLboth := ok_lboth (P := P) (w := w) (base := base) DLboth gLran gLplot
  have gLfree := ok_lfree (P := P) (w := w) (base := base) DLfree gLboth
  have gLflat := ok_lflat (P := P) (w := w) (base := base) DLflat B gLdraw gLlevel gLput gLfresh gLword
  have gLdeed := ok_ldeed (P := P) (w := w) (base := base) DLdeed B gLdraw gLmark gLfresh gLword
  have gLnear := ok_lnear (P := P) (w := w) (base := base) DLnear B gLdraw gLdeed
  have gLalike := ok_alike (P := P) (w := w) (base := base) DLalike B 40
  have gLwrong := ok_wrong (P := P) (w := w) (base := base) DLwrong T gPare_free
  exact ok_law (fun_mk lL cL kL) B gLdraw gLflat gLplot gLdeed gLnear gLfree gLboth gLalike gLwrong gPare_free gPagree gPmerged
end Gf
set_option Elab.async false
set_option maxRecDepth 100000
open PySem PySem.W PyProof.Rows
set_option maxRecDepth 100000 in
set_option maxHeartbeats 0 in
theorem PySem.Challenge.cw_graftbook_k45_whole_free_deeds_holds : PySem.Challenge.rw_graftbook_k45_whole_free_deeds.Holds := by
  w_on; o_law; k_head; (case hw => w_witness2)
  k_fill
  refine L2.walk_ofK (l := PySem.Challenge.rw_graftbook_k45_whole_free_deeds) (n := 63) (k := 41) (x := "_law_script") (CX := L2.CX0) (sp := Gf.sp_law) rfl (by decide) rfl ⟨rfl, by decide, by decide⟩ (fun w h Y => PySem.W.kIn_of Y) ?F (fun _ _ a ns _ _ hS => ⟨a, ns, rfl, hS, fun _ => rfl⟩) (fun _ _ _ _ z => z)
  case F =>
    intro w mg fa h KX G hmg
    refine' Gf.all_mk KX G hmg (Gf.bi_mk KX G ?n1 ?n2 ?n3 ?n4 ?n5 ?n6 ?n7 ?n8 ?n9 ?n10) (Gf.cn_mk KX G ?m1 ?m2) (Gf.is_mk KX G ?xaC ?xaS ?xxC ?xbC ?xsa ?xga ?xgg ?xnv ?xiC ?xtI ?xkC ?xeC ?xtC ?xhC ?xcC ?xsC ?xsu ?xvE ?xmC ?xop ?xlI ?xcI ?xlD ?xvD ?xfD ?xlc ?xtp)
      (Gf.df_mk KX G Gf.bd_Pis_int ?aPis_int ?lPis_int ?cPis_int ?kPis_int)
      (Gf.df_mk KX G Gf.bd_Pis_count ?aPis_count ?lPis_count ?cPis_count ?kPis_count)
      (Gf.df_mk KX G Gf.bd_Phas_size ?aPhas_size ?lPhas_size ?cPhas_size ?kPhas_size)
      (Gf.df_mk KX G Gf.bd_Pis_word ?aPis_word ?lPis_word ?cPis_word ?kPis_word)
      (Gf.df_mk KX G Gf.bd_Pis_plot_value ?aPis_plot_value ?lPis_plot_value ?cPis_plot_value ?kPis_plot_value)
      (Gf.df_mk KX G Gf.bd_Pneed_plot ?aPneed_plot ?lPneed_plot ?cPneed_plot ?kPneed_plot)
      (Gf.df_mk KX G Gf.bd_Pspots_of ?aPspots_of ?lPspots_of ?cPspots_of ?kPspots_of)
      (Gf.df_mk KX G Gf.bd_Pspots_below ?aPspots_below ?lPspots_below ?cPspots_below ?kPspots_below)
      (Gf.df_mk KX G Gf.bd_Pwith_places ?aPwith_places ?lPwith_places ?cPwith_places ?kPwith_places)
      (Gf.df_mk KX G Gf.bd_Pplaces_of ?aPplaces_of ?lPplaces_of ?cPplaces_of ?kPplaces_of)
      (Gf.df_mk KX G Gf.bd_Prow_at ?aProw_at ?lProw_at ?cProw_at ?kProw_at)
      (Gf.df_mk KX G Gf.bd_Pspot_with ?aPspot_with ?lPspot_with ?cPspot_with ?kPspot_with)
      (Gf.df_mk KX G Gf.bd_Pwith_row ?aPwith_row ?lPwith_row ?cPwith_row ?kPwith_row)
      (Gf.df_mk KX G Gf.bd_Ptaken_out ?aPtaken_out ?lPtaken_out ?cPtaken_out ?kPtaken_out)
      (Gf.df_mk KX G Gf.bd_Pput_in ?aPput_in ?lPput_in ?cPput_in ?kPput_in)
      (Gf.df_mk KX G Gf.bd_Pworded ?aPworded ?lPworded ?cPworded ?kPworded)
      (Gf.df_mk KX G Gf.bd_Pis_mark ?aPis_mark ?lPis_mark ?cPis_mark ?kPis_mark)
      (Gf.df_mk KX G Gf.bd_Pis_deed ?aPis_deed ?lPis_deed ?cPis_deed ?kPis_deed)
      (Gf.df_mk KX G Gf.bd_Pneed_deed ?aPneed_deed ?lPneed_deed ?cPneed_deed ?kPneed_deed)
      (Gf.df_mk KX G Gf.bd_Prefusal_of ?aPrefusal_of ?lPrefusal_of ?cPrefusal_of ?kPrefusal_of)
      (Gf.df_mk KX G Gf.bd_Preason_at ?aPreason_at ?lPreason_at ?cPreason_at ?kPreason_at)
      (Gf.df_mk KX G Gf.bd_Pis_inside ?aPis_inside ?lPis_inside ?cPis_inside ?kPis_inside)
      (Gf.df_mk KX G Gf.bd_Prun_deed ?aPrun_deed ?lPrun_deed ?cPrun_deed ?kPrun_deed)
      (Gf.df_mk KX G Gf.bd_Pplot_behind_deed ?aPplot_behind_deed ?lPplot_behind_deed ?cPplot_behind_deed ?kPplot_behind_deed)
      (Gf.df_mk KX G Gf.bd_Pneed_script ?aPneed_script ?lPneed_script ?cPneed_script ?kPneed_script)
      (Gf.df_mk KX G Gf.bd_Prun ?aPrun ?lPrun ?cPrun ?kPrun)
      (Gf.df_mk KX G Gf.bd_Pneed_scripts ?aPneed_scripts ?lPneed_scripts ?cPneed_scripts ?kPneed_scripts)
      (Gf.df_mk KX G Gf.bd_Preached ?aPreached ?lPreached ?cPreached ?kPreached)
      (Gf.df_mk KX G Gf.bd_Pmet ?aPmet ?lPmet ?cPmet ?kPmet)
      (Gf.df_mk KX G Gf.bd_Pare_free ?aPare_free ?lPare_free ?cPare_free ?kPare_free)
      (Gf.df_mk KX G Gf.bd_Pagree ?aPagree ?lPagree ?cPagree ?kPagree)
      (Gf.df_mk KX G Gf.bd_Pneed_runs ?aPneed_runs ?lPneed_runs ?cPneed_runs ?kPneed_runs)
      (Gf.df_mk KX G Gf.bd_Pmerged ?aPmerged ?lPmerged ?cPmerged ?kPmerged)
      (Gf.df_mk KX G Gf.bd_Lmixed ?aLmixed ?lLmixed ?cLmixed ?kLmixed)
      (Gf.df_mk KX G Gf.bd_Ldraw ?aLdraw ?lLdraw ?cLdraw ?kLdraw)
      (Gf.df_mk KX G Gf.bd_Lword ?aLword ?lLword ?cLword ?kLword)
      (Gf.df_mk KX G Gf.bd_Lmark ?aLmark ?lLmark ?cLmark ?kLmark)
      (Gf.df_mk KX G Gf.bd_Lfresh ?aLfresh ?lLfresh ?cLfresh ?kLfresh)
      (Gf.df_mk KX G Gf.bd_Llevel ?aLlevel ?lLlevel ?cLlevel ?kLlevel)
      (Gf.df_mk KX G Gf.bd_Lput ?aLput ?lLput ?cLput ?kLput)
      (Gf.df_mk KX G Gf.bd_Lflat ?aLflat ?lLflat ?cLflat ?kLflat)
      (Gf.df_mk KX G Gf.bd_Lplot ?aLplot ?lLplot ?cLplot ?kLplot)
      (Gf.df_mk KX G Gf.bd_Lalike ?aLalike ?lLalike ?cLalike ?kLalike)
      (Gf.df_mk KX G Gf.bd_Lbelow ?aLbelow ?lLbelow ?cLbelow ?kLbelow)
      (Gf.df_mk KX G Gf.bd_Lreason ?aLreason ?lLreason ?cLreason ?kLreason)
      (Gf.df_mk KX G Gf.bd_Ldone ?aLdone ?lLdone ?cLdone ?kLdone)
      (Gf.df_mk KX G Gf.bd_Lran ?aLran ?lLran ?cLran ?kLran)
      (Gf.df_mk KX G Gf.bd_Ldeed ?aLdeed ?lLdeed ?cLdeed ?kLdeed)
      (Gf.df_mk KX G Gf.bd_Lnear ?aLnear ?lLnear ?cLnear ?kLnear)
      (Gf.df_mk KX G Gf.bd_Lboth ?aLboth ?lLboth ?cLboth ?kLboth)
      (Gf.df_mk KX G Gf.bd_Lfree ?aLfree ?lLfree ?cLfree ?kLfree)
      (Gf.df_mk KX G Gf.bd_Lwrong ?aLwrong ?lLwrong ?cLwrong ?kLwrong)
      ?aZ ?lZ ?cZ ?kZ
    (case n1 => k_is); (case n2 => k_is); (case n3 => k_is); (case n4 => k_is); (case n5 => k_is); (case n6 => k_is); (case n7 => k_is); (case n8 => k_is); (case n9 => k_is); (case n10 => k_is)
    (case m1 => k_is); (case m2 => k_is)
    (case xaC => k_is)
    (case xaS => k_is)
    (case xxC => k_is)
    (case xbC => first | rfl | decide +kernel)
    (case xsa => k_is)
    (case xga => k_is)
    (case xgg => k_is)
    (case xnv => k_is)
    (case xiC => k_is)
    (case xtI => k_is)
    (case xkC => k_is)
    (case xeC => k_is)
    (case xtC => k_is)
    (case xhC => k_is)
    (case xcC => k_is)
    (case xsC => first | rfl | k_is)
    (case xsu => ks_is)
    (case xvE => k_is)
    (case xmC => k_is)
    (case xop => k_is)
    (case xlI => k_is)
    (case xcI => k_is)
    (case xlD => k_is)
    (case xvD => first | rfl | decide +kernel)
    (case xfD => first | rfl | decide +kernel)
    (case xlc => k_is)
    (case xtp => first | rfl | decide +kernel)
    (case aPis_int => k_is); (case lPis_int => k_is); (case cPis_int => k_is); (case kPis_int => k_is)
    (case aPis_count => k_is); (case lPis_count => k_is); (case cPis_count => k_is); (case kPis_count => k_is)
    (case aPhas_size => k_is); (case lPhas_size => k_is); (case cPhas_size => k_is); (case kPhas_size => k_is)
    (case aPis_word => k_is); (case lPis_word => k_is); (case cPis_word => k_is); (case kPis_word => k_is)
    (case aPis_plot_value => k_is); (case lPis_plot_value => k_is); (case cPis_plot_value => k_is); (case kPis_plot_value => k_is)
    (case aPneed_plot => k_is); (case lPneed_plot => k_is); (case cPneed_plot => k_is); (case kPneed_plot => k_is)
    (case aPspots_of => k_is); (case lPspots_of => k_is); (case cPspots_of => k_is); (case kPspots_of => k_is)
    (case aPspots_below => k_is); (case lPspots_below => k_is); (case cPspots_below => k_is); (case kPspots_below => k_is)
    (case aPwith_places => k_is); (case lPwith_places => k_is); (case cPwith_places => k_is); (case kPwith_places => k_is)
    (case aPplaces_of => k_is); (case lPplaces_of => k_is); (case cPplaces_of => k_is); (case kPplaces_of => k_is)
    (case aProw_at => k_is); (case lProw_at => k_is); (case cProw_at => k_is); (case kProw_at => k_is)
    (case aPspot_with => k_is); (case lPspot_with => k_is); (case cPspot_with => k_is); (case kPspot_with => k_is)
    (case aPwith_row => k_is); (case lPwith_row => k_is); (case cPwith_row => k_is); (case kPwith_row => k_is)
    (case aPtaken_out => k_is); (case lPtaken_out => k_is); (case cPtaken_out => k_is); (case kPtaken_out => k_is)
    (case aPput_in => k_is); (case lPput_in => k_is); (case cPput_in => k_is); (case kPput_in => k_is)
    (case aPworded => k_is); (case lPworded => k_is); (case cPworded => k_is); (case kPworded => k_is)
    (case aPis_mark => k_is); (case lPis_mark => k_is); (case cPis_mark => k_is); (case kPis_mark => k_is)
    (case aPis_deed => k_is); (case lPis_deed => k_is); (case cPis_deed => k_is); (case kPis_deed => k_is)
    (case aPneed_deed => k_is); (case lPneed_deed => k_is); (case cPneed_deed => k_is); (case kPneed_deed => k_is)
    (case aPrefusal_of => k_is); (case lPrefusal_of => k_is); (case cPrefusal_of => k_is); (case kPrefusal_of => k_is)
    (case aPreason_at => k_is); (case lPreason_at => k_is); (case cPreason_at => k_is); (case kPreason_at => k_is)
    (case aPis_inside => k_is); (case lPis_inside => k_is); (case cPis_inside => k_is); (case kPis_inside => k_is)
    (case aPrun_deed => k_is); (case lPrun_deed => k_is); (case cPrun_deed => k_is); (case kPrun_deed => k_is)
    (case aPplot_behind_deed => k_is); (case lPplot_behind_deed => k_is); (case cPplot_behind_deed => k_is); (case kPplot_behind_deed => k_is)
    (case aPneed_script => k_is); (case lPneed_script => k_is); (case cPneed_script => k_is); (case kPneed_script => k_is)
    (case aPrun => k_is); (case lPrun => k_is); (case cPrun => k_is); (case kPrun => k_is)
    (case aPneed_scripts => k_is); (case lPneed_scripts => k_is); (case cPneed_scripts => k_is); (case kPneed_scripts => k_is)
    (case aPreached => k_is); (case lPreached => k_is); (case cPreached => k_is); (case kPreached => k_is)
    (case aPmet => k_is); (case lPmet => k_is); (case cPmet => k_is); (case kPmet => k_is)
    (case aPare_free => k_is); (case lPare_free => k_is); (case cPare_free => k_is); (case kPare_free => k_is)
    (case aPagree => k_is); (case lPagree => k_is); (case cPagree => k_is); (case kPagree => k_is)
    (case aPneed_runs => k_is); (case lPneed_runs => k_is); (case cPneed_runs => k_is); (case kPneed_runs => k_is)
    (case aPmerged => k_is); (case lPmerged => k_is); (case cPmerged => k_is); (case kPmerged => k_is)
    (case aLmixed => k_is); (case lLmixed => k_is); (case cLmixed => k_is); (case kLmixed => k_is)
    (case aLdraw => k_is); (case lLdraw => k_is); (case cLdraw => k_is); (case kLdraw => k_is)
    (case aLword => k_is); (case lLword => k_is); (case cLword => k_is); (case kLword => k_is)
    (case aLmark => k_is); (case lLmark => k_is); (case cLmark => k_is); (case kLmark => k_is)
    (case aLfresh => k_is); (case lLfresh => k_is); (case cLfresh => k_is); (case kLfresh => k_is)
    (case aLlevel => k_is); (case lLlevel => k_is); (case cLlevel => k_is); (case kLlevel => k_is)
    (case aLput => k_is); (case lLput => k_is); (case cLput => k_is); (case kLput => k_is)
    (case aLflat => k_is); (case lLflat => k_is); (case cLflat => k_is); (case kLflat => k_is)
    (case aLplot => k_is); (case lLplot => k_is); (case cLplot => k_is); (case kLplot => k_is)
    (case aLalike => k_is); (case lLalike => k_is); (case cLalike => k_is); (case kLalike => k_is)
    (case aLbelow => k_is); (case lLbelow => k_is); (case cLbelow => k_is); (case kLbelow => k_is)
    (case aLreason => k_is); (case lLreason => k_is); (case cLreason => k_is); (case kLreason => k_is)
    (case aLdone => k_is); (case lLdone => k_is); (case cLdone => k_is); (case kLdone => k_is)
    (case aLran => k_is); (case lLran => k_is); (case cLran => k_is); (case kLran => k_is)
    (case aLdeed => k_is); (case lLdeed => k_is); (case cLdeed => k_is); (case kLdeed => k_is)
    (case aLnear => k_is); (case lLnear => k_is); (case cLnear => k_is); (case kLnear => k_is)
    (case aLboth => k_is); (case lLboth => k_is); (case cLboth => k_is); (case kLboth => k_is)
    (case aLfree => k_is); (case lLfree => k_is); (case cLfree => k_is); (case kLfree => k_is)
    (case aLwrong => k_is); (case lLwrong => k_is); (case cLwrong => k_is); (case kLwrong => k_is)
    (case aZ => k_is); (case lZ => k_is); (case cZ => k_is); (case kZ => k_is)
