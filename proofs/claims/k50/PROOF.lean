import PyProof.Rows.All
import Wide.All
import OpenK.AllK
import Wide.FinOn
import HandS.ForMost
import HandS.More
import HandS.Zip
import HandS.TupAny
import HandS.TupMul
import HandS.Strs
import HandS.Wide
import KE.KDictKeyed
import PyProof.StrOps2
import KE.GoesEnum
import PySem.Challenge.RW_rowsmith_k50_whole_longer_fronts_cost_no
import HandS.Rev
set_option Elab.async false
set_option linter.all false
set_option maxRecDepth 100000
set_option maxHeartbeats 8000000
/-! The mathematics of k50, no program in sight. -/
namespace M50

inductive Sg | sum | less | mul
  deriving DecidableEq

inductive Tr (N : Type) where
  | num (n : Int) | name (x : N) | piece (k : Nat) | turn (a : Tr N) | bin (s : Sg) (a b : Tr N)
  deriving DecidableEq

inductive Pt (N : Type) where
  | hole (c : N) | any | from_ (lo hi : Int) | turn (p : Pt N) | bin (s : Sg) (p q : Pt N)
  deriving DecidableEq

structure Tile (N : Type) where
  nm : N
  cls : N
  pat : Pt N
  fee : Int

structure Tb (N : Type) where
  classes : List N
  tiles : List (Tile N)

abbrev Lab (N : Type) := List (N × Int)

section
variable {κ β : Type} [DecidableEq κ]
def look (l : List (κ × β)) (c : κ) : Option β := (l.find? fun kv => decide (kv.1 = c)).map (·.2)
def put (l : List (κ × β)) (c : κ) (v : β) : List (κ × β) :=
  if (l.any fun kv => decide (kv.1 = c)) = true then l.map (fun kv => if kv.1 = c then (kv.1, v) else kv) else l ++ [(c, v)]
theorem look_nil {c : κ} : look ([] : List (κ × β)) c = none := rfl
theorem look_pos {p : κ × β} {r : List (κ × β)} {k : κ} (e : p.1 = k) : look (p :: r) k = some p.2 := by simp [look, List.find?_cons, e]
theorem look_neg {p : κ × β} {r : List (κ × β)} {k : κ} (e : ¬ p.1 = k) : look (p :: r) k = look r k := by simp [look, List.find?_cons, e]
theorem look_any (k : κ) : ∀ l : List (κ × β), (l.any fun kv => decide (kv.1 = k)) = (look l k).isSome
  | [] => rfl
  | p :: r => by
    rw [List.any_cons]
    by_cases e : p.1 = k
    · simp only [look_pos e, decide_eq_true e, Bool.true_or, Option.isSome_some]
    · rw [look_neg e, decide_eq_false e, Bool.false_or]; exact look_any k r
theorem look_map (k j : κ) (y : β) : ∀ l : List (κ × β), look (l.map fun kv => if kv.1 = k then (kv.1, y) else kv) j = (look l j).map fun x => if j = k then y else x
  | [] => rfl
  | p :: r => by
    have ih := look_map k j y r
    rw [List.map_cons]
    by_cases h : p.1 = k
    · rw [if_pos h]
      by_cases e : p.1 = j
      · rw [look_pos (p := (p.1, y)) e, look_pos e, Option.map_some, if_pos (e.symm.trans h)]
      · rw [look_neg (p := (p.1, y)) e, look_neg e, ih]
    · rw [if_neg h]
      by_cases e : p.1 = j
      · rw [look_pos (p := p) e, look_pos e, Option.map_some, if_neg (fun z => h (e.trans z))]
      · rw [look_neg (p := p) e, look_neg e, ih]
theorem look_snoc (k j : κ) (y : β) : ∀ l : List (κ × β), look l k = none → look (l ++ [(k, y)]) j = if j = k then some y else look l j
  | [], _ => by
    by_cases e : k = j
    · rw [if_pos e.symm]; exact look_pos (p := (k, y)) e
    · rw [if_neg (fun z => e z.symm)]; exact look_neg (p := (k, y)) e
  | p :: r, hn => by
    rw [List.cons_append]
    have hk : ¬ p.1 = k := fun z => by rw [look_pos z] at hn; cases hn
    rw [look_neg hk] at hn
    have ih := look_snoc k j y r hn
    by_cases e : p.1 = j
    · rw [look_pos e, look_pos e, if_neg (fun z => hk (e.trans z))]
    · rw [look_neg e, look_neg e, ih]
theorem look_put (l : List (κ × β)) (k j : κ) (y : β) : look (put l k y) j = if j = k then some y else look l j := by
  unfold put
  by_cases a : (l.any fun kv => decide (kv.1 = k)) = true
  · rw [if_pos a, look_map]
    rw [look_any] at a
    by_cases e : j = k
    · obtain ⟨x, hx⟩ := Option.isSome_iff_exists.mp a
      rw [if_pos e, e, hx, Option.map_some, if_pos rfl]
    · rw [if_neg e]
      cases look l j with
      | none => rfl
      | some x => rw [Option.map_some, if_neg e]
  · rw [if_neg a]
    refine look_snoc k j y l ?_
    rw [look_any] at a
    cases q : look l k with
    | none => rfl
    | some x => rw [q] at a; exact (a rfl).elim
theorem put_new {l : List (κ × β)} {k : κ} (v : β) (h : look l k = none) : put l k v = l ++ [(k, v)] := by
  unfold put
  rw [look_any, h]
  exact if_neg (by simp)
theorem length_put (l : List (κ × β)) (k : κ) (v : β) : (put l k v).length ≤ l.length + 1 := by
  unfold put
  split
  · rw [List.length_map]; omega
  · rw [List.length_append, List.length_cons, List.length_nil]; omega
theorem look_mem {l : List (κ × β)} {k : κ} {v : β} (h : look l k = some v) : (k, v) ∈ l := by
  induction l with
  | nil => cases h
  | cons p r ih =>
    by_cases e : p.1 = k
    · rw [look_pos e] at h
      cases h
      subst e
      exact List.mem_cons_self
    · rw [look_neg e] at h
      exact List.mem_cons_of_mem _ (ih h)
end

section
variable {N : Type} [DecidableEq N]

def laid : Pt N → Tr N → Option (List (N × Tr N))
  | .hole c, t => some [(c, t)]
  | .any, .name _ => some []
  | .from_ lo hi, .num n => if lo ≤ n ∧ n ≤ hi then some [] else none
  | .turn p, .turn t => laid p t
  | .bin s p q, .bin s' t u => if s = s' then (match laid p t with
      | none => none
      | some a => match laid q u with
        | none => none
        | some b => some (a ++ b)) else none
  | _, _ => none

def isHole : Pt N → Bool
  | .hole _ => true
  | _ => false

def under : Tr N → List (Tr N)
  | .turn a => .turn a :: under a
  | .bin s a b => .bin s a b :: (under a ++ under b)
  | .num n => [.num n]
  | .name x => [.name x]
  | .piece k => [.piece k]

theorem under_head (t : Tr N) : ∃ r, under t = t :: r := by
  cases t with
  | turn a => exact ⟨_, rfl⟩
  | bin s a b => exact ⟨_, rfl⟩
  | num n => exact ⟨_, rfl⟩
  | name x => exact ⟨_, rfl⟩
  | piece k => exact ⟨_, rfl⟩
theorem self_under (t : Tr N) : t ∈ under t := by
  obtain ⟨r, e⟩ := under_head t
  rw [e]
  exact List.mem_cons_self

theorem under_split : ∀ (t : Tr N) (pre : List (Tr N)) (s : Tr N) (post : List (Tr N)), under t = pre ++ s :: post → ∀ u ∈ (under s).tail, u ∈ post := by
  intro t
  have top : ∀ (x : Tr N) (r : List (Tr N)), under x = x :: r → (∀ pre s post, r = pre ++ s :: post → ∀ u ∈ (under s).tail, u ∈ post) →
      ∀ pre s post, under x = pre ++ s :: post → ∀ u ∈ (under s).tail, u ∈ post := by
    intro x r ex h pre s post e u hu
    cases pre with
    | nil =>
      rw [ex] at e
      simp only [List.nil_append, List.cons.injEq] at e
      obtain ⟨e1, e2⟩ := e
      subst e1 e2
      rw [ex] at hu
      exact hu
    | cons y pre =>
      rw [ex] at e
      simp only [List.cons_append, List.cons.injEq] at e
      exact h pre s post e.2 u hu
  induction t with
  | num n => exact top _ _ rfl fun pre s post e => by cases pre <;> cases e
  | name x => exact top _ _ rfl fun pre s post e => by cases pre <;> cases e
  | piece k => exact top _ _ rfl fun pre s post e => by cases pre <;> cases e
  | turn a iha => exact top _ _ rfl iha
  | bin sg a b iha ihb =>
    refine top _ _ rfl fun pre s post e u hu => ?_
    rcases List.append_eq_append_iff.mp e with ⟨c, e1, e2⟩ | ⟨c, e1, e2⟩
    · -- pre = under a ++ c, under b = c ++ s :: post
      exact ihb c s post e2 u hu
    · -- under a = pre ++ c, s :: post = c ++ under b
      cases c with
      | nil =>
        rw [List.nil_append] at e2
        exact ihb [] s post (by rw [List.nil_append]; exact e2.symm) u hu
      | cons y c =>
        rw [List.cons_append, List.cons.injEq] at e2
        obtain ⟨e3, e4⟩ := e2
        subst e3 e4
        exact List.mem_append_left _ (iha pre s c e1 u hu)

theorem laid_under : ∀ (p : Pt N) (t : Tr N) (hs : List (N × Tr N)), laid p t = some hs → ∀ h ∈ hs, h.2 ∈ under t := by
  intro p
  induction p with
  | hole c =>
    intro t hs e h hm
    simp only [laid, Option.some.injEq] at e
    subst e
    rw [List.mem_singleton] at hm
    subst hm
    exact self_under t
  | any =>
    intro t hs e h hm
    cases t <;> simp only [laid] at e <;> cases e
    cases hm
  | from_ lo hi =>
    intro t hs e h hm
    cases t <;> simp only [laid] at e <;> first | (cases e; done) | skip
    split at e
    · cases e
      cases hm
    · cases e
  | turn p ih =>
    intro t hs e h hm
    cases t <;> simp only [laid] at e <;> first | (cases e; done) | skip
    exact List.mem_cons_of_mem _ (ih _ hs e h hm)
  | bin s p q ihp ihq =>
    intro t hs e h hm
    cases t <;> simp only [laid] at e <;> first | (cases e; done) | skip
    rename_i s' t u
    split at e
    · split at e
      · cases e
      · split at e
        · cases e
        · rename_i a ea _ b eb
          cases e
          refine List.mem_cons_of_mem _ ?_
          rcases List.mem_append.mp hm with hm | hm
          · exact List.mem_append_left _ (ihp _ _ ea h hm)
          · exact List.mem_append_right _ (ihq _ _ eb h hm)
    · cases e
theorem laid_tail {p : Pt N} {t : Tr N} {hs : List (N × Tr N)} (hp : isHole p = false) (e : laid p t = some hs) : ∀ h ∈ hs, h.2 ∈ (under t).tail := by
  cases p with
  | hole c => cases hp
  | any =>
    intro h hm
    cases t <;> simp only [laid] at e <;> cases e
    cases hm
  | from_ lo hi =>
    intro h hm
    cases t <;> simp only [laid] at e <;> first | (cases e; done) | skip
    split at e
    · cases e
      cases hm
    · cases e
  | turn p =>
    intro h hm
    cases t <;> simp only [laid] at e <;> first | (cases e; done) | skip
    exact laid_under _ _ _ e h hm
  | bin s p q =>
    intro h hm
    cases t <;> simp only [laid] at e <;> first | (cases e; done) | skip
    split at e
    · split at e
      · cases e
      · split at e
        · cases e
        · rename_i a ea _ b eb
          cases e
          show h.2 ∈ under _ ++ under _
          rcases List.mem_append.mp hm with hm | hm
          · exact List.mem_append_left _ (laid_under _ _ _ ea h hm)
          · exact List.mem_append_right _ (laid_under _ _ _ eb h hm)
    · cases e

/-! ### labels -/
/-- all values at least 0 -/
def Nn (l : Lab N) : Prop := ∀ c v, look l c = some v → 0 ≤ v
theorem Nn.nil : Nn ([] : Lab N) := fun c v e => by cases e
theorem Nn.put {l : Lab N} (h : Nn l) {c : N} {v : Int} (hv : 0 ≤ v) : Nn (put l c v) := fun d w e => by
  rw [look_put] at e
  split at e
  · cases e; exact hv
  · exact h d w e

def lessen (l : Lab N) (c : N) (p : Int) : Lab N × Bool :=
  match look l c with
  | some v => if v ≤ p then (l, false) else (put l c p, true)
  | none => (put l c p, true)
theorem lessen_nn {l : Lab N} (h : Nn l) {c : N} {p : Int} (hp : 0 ≤ p) : Nn (lessen l c p).1 := by
  unfold lessen
  split
  · split
    · exact h
    · exact h.put hp
  · exact h.put hp

def passStep (st : Lab N × Bool) (tl : Tile N) : Lab N × Bool :=
  match tl.pat with
  | .hole c => match look st.1 c with
    | some v => let r := lessen st.1 tl.cls (v + tl.fee); (r.1, r.2 || st.2)
    | none => st
  | _ => st
def round (T : Tb N) (l : Lab N) : Lab N × Bool := T.tiles.foldl passStep (l, false)

structure Ok (T : Tb N) : Prop where
  fee : ∀ tl ∈ T.tiles, 0 ≤ tl.fee

theorem passStep_nn {st : Lab N × Bool} {tl : Tile N} (h : Nn st.1) (hf : 0 ≤ tl.fee) : Nn (passStep st tl).1 := by
  unfold passStep
  split
  · split
    · rename_i v e
      exact lessen_nn h (Int.add_nonneg (h _ _ e) hf)
    · exact h
  · exact h
theorem fold_nn {T : Tb N} : ∀ (ts : List (Tile N)), (∀ tl ∈ ts, 0 ≤ tl.fee) → ∀ st : Lab N × Bool, Nn st.1 → Nn (ts.foldl passStep st).1
  | [], _, _, h => h
  | tl :: ts, hf, st, h => fold_nn (T := T) ts (fun x hx => hf x (List.mem_cons_of_mem _ hx)) _ (passStep_nn h (hf tl List.mem_cons_self))
theorem round_nn {T : Tb N} (ok : Ok T) {l : Lab N} (h : Nn l) : Nn (round T l).1 := fold_nn (T := T) T.tiles ok.fee _ h

/-- the measure: how many classes of tiles are lacking, then the sum -/
def lacks (T : Tb N) (l : Lab N) : Nat := ((T.tiles.map (·.cls)).filter fun c => (look l c).isNone).length
def total (T : Tb N) (l : Lab N) : Nat := ((T.tiles.map (·.cls)).map fun c => ((look l c).getD 0).toNat).sum
def Less (T : Tb N) (a b : Lab N) : Prop := lacks T a < lacks T b ∨ (lacks T a = lacks T b ∧ total T a < total T b)
theorem Less.trans {T : Tb N} {a b c : Lab N} (h : Less T a b) (g : Less T b c) : Less T a c := by
  rcases h with h | ⟨h1, h2⟩ <;> rcases g with g | ⟨g1, g2⟩
  · exact .inl (Nat.lt_trans h g)
  · exact .inl (g1 ▸ h)
  · exact .inl (h1 ▸ g)
  · exact .inr ⟨h1.trans g1, Nat.lt_trans h2 g2⟩

theorem filter_lt {α : Type} {p q : α → Bool} (hpq : ∀ x, p x = true → q x = true) : ∀ {l : List α} {a : α}, a ∈ l → p a = false → q a = true → (l.filter p).length < (l.filter q).length := by
  have le : ∀ l : List α, (l.filter p).length ≤ (l.filter q).length := by
    intro l
    induction l with
    | nil => exact Nat.le_refl _
    | cons x r ih =>
      rw [List.filter_cons, List.filter_cons]
      by_cases hx : p x = true
      · rw [if_pos hx, if_pos (hpq x hx)]; exact Nat.succ_le_succ ih
      · rw [if_neg hx]
        split
        · exact Nat.le_succ_of_le ih
        · exact ih
  intro l
  induction l with
  | nil => intro a ha; cases ha
  | cons x r ih =>
    intro a ha hp hq
    rw [List.filter_cons, List.filter_cons]
    rcases List.mem_cons.mp ha with e | ha
    · subst e
      rw [if_neg (by rw [hp]; decide), if_pos hq]
      exact Nat.lt_succ_of_le (le r)
    · have := ih ha hp hq
      by_cases hx : p x = true
      · rw [if_pos hx, if_pos (hpq x hx)]; exact Nat.succ_lt_succ this
      · rw [if_neg hx]
        split
        · exact Nat.lt_succ_of_lt this
        · exact this
theorem sum_lt {α : Type} {f g : α → Nat} (hfg : ∀ x, f x ≤ g x) : ∀ {l : List α} {a : α}, a ∈ l → f a < g a → (l.map f).sum < (l.map g).sum := by
  have le : ∀ l : List α, (l.map f).sum ≤ (l.map g).sum := by
    intro l
    induction l with
    | nil => exact Nat.le_refl _
    | cons x r ih =>
      simp only [List.map_cons, List.sum_cons]
      exact Nat.add_le_add (hfg x) ih
  intro l
  induction l with
  | nil => intro a ha; cases ha
  | cons x r ih =>
    intro a ha h
    simp only [List.map_cons, List.sum_cons]
    rcases List.mem_cons.mp ha with e | ha
    · subst e
      exact Nat.add_lt_add_of_lt_of_le h (le r)
    · exact Nat.add_lt_add_of_le_of_lt (hfg x) (ih ha h)

theorem less_put {T : Tb N} {l : Lab N} {c : N} {p : Int} (hc : c ∈ T.tiles.map (·.cls)) (hp : 0 ≤ p) (h : ∀ v, look l c = some v → p < v) : Less T (put l c p) l := by
  cases e : look l c with
  | none =>
    refine .inl (filter_lt (fun x hx => ?_) hc ?_ ?_)
    · rw [look_put] at hx
      split at hx
      · cases hx
      · exact hx
    · rw [look_put, if_pos rfl]; rfl
    · rw [e]; rfl
  | some v =>
    have hv := h v e
    refine .inr ⟨?_, sum_lt (fun x => ?_) hc ?_⟩
    · unfold lacks
      congr 2
      funext x
      rw [look_put]
      split
      · rename_i q
        rw [q, e]
        rfl
      · rfl
    · rw [look_put]
      split
      · rename_i q
        rw [q, e]
        show p.toNat ≤ v.toNat
        omega
      · exact Nat.le_refl _
    · show ((look (put l c p) c).getD 0).toNat < ((look l c).getD 0).toNat
      rw [look_put, if_pos rfl, e]
      show p.toNat < v.toNat
      omega
theorem lessen_less {T : Tb N} {l : Lab N} {c : N} {p : Int} (hc : c ∈ T.tiles.map (·.cls)) (hp : 0 ≤ p) :
    ((lessen l c p).2 = false ∧ (lessen l c p).1 = l) ∨ ((lessen l c p).2 = true ∧ Less T (lessen l c p).1 l) := by
  unfold lessen
  cases e : look l c with
  | none => exact .inr ⟨rfl, less_put hc hp fun v q => by rw [e] at q; cases q⟩
  | some v =>
    dsimp only
    split
    · exact .inl ⟨rfl, rfl⟩
    · rename_i hv
      exact .inr ⟨rfl, less_put hc hp fun w q => by rw [e] at q; cases q; omega⟩
theorem fold_less {T : Tb N} (ok : Ok T) (l : Lab N) : ∀ (ts : List (Tile N)), (∀ tl ∈ ts, tl ∈ T.tiles) → ∀ st : Lab N × Bool, Nn st.1 → ((st.2 = false ∧ st.1 = l) ∨ (st.2 = true ∧ Less T st.1 l)) →
    (((ts.foldl passStep st).2 = false ∧ (ts.foldl passStep st).1 = l) ∨ ((ts.foldl passStep st).2 = true ∧ Less T (ts.foldl passStep st).1 l))
  | [], _, _, _, h => h
  | tl :: ts, hm, st, hn, h => by
    have hf := ok.fee tl (hm tl List.mem_cons_self)
    refine fold_less ok l ts (fun x hx => hm x (List.mem_cons_of_mem _ hx)) _ (passStep_nn hn hf) ?_
    unfold passStep
    split
    · split
      · rename_i c ec v ev
        have hc : tl.cls ∈ T.tiles.map (·.cls) := List.mem_map.mpr ⟨tl, hm tl List.mem_cons_self, rfl⟩
        rcases lessen_less (T := T) (l := st.1) hc (p := v + tl.fee) (Int.add_nonneg (hn _ _ ev) hf) with ⟨q1, q2⟩ | ⟨q1, q2⟩
        · dsimp only
          rw [q1, q2, Bool.false_or]
          exact h
        · dsimp only
          rw [q1, Bool.true_or]
          refine .inr ⟨rfl, ?_⟩
          rcases h with ⟨_, h⟩ | ⟨_, h⟩
          · rw [h] at q2 ⊢
            exact q2
          · exact q2.trans h
      · exact h
    · exact h
theorem round_less {T : Tb N} (ok : Ok T) {l : Lab N} (h : Nn l) (c : (round T l).2 = true) : Less T (round T l).1 l := by
  rcases fold_less ok l T.tiles (fun _ h => h) (l, false) h (.inl ⟨rfl, rfl⟩) with ⟨q, _⟩ | ⟨_, q⟩
  · have : (round T l).2 = false := q
    rw [c] at this
    cases this
  · exact q

/-- n rounds that change, then one that doesn't -/
inductive Steps (T : Tb N) : Nat → Lab N → Lab N → Prop where
  | done {l l' : Lab N} : round T l = (l', false) → Steps T 0 l l'
  | more {n : Nat} {l l' r : Lab N} : round T l = (l', true) → Steps T n l' r → Steps T (n + 1) l r
theorem Steps.det {T : Tb N} {n : Nat} {l r : Lab N} (h : Steps T n l r) : ∀ {m : Nat} {r' : Lab N}, Steps T m l r' → n = m ∧ r = r' := by
  induction h with
  | done e =>
    intro m r' g
    cases g with
    | done e' => rw [e] at e'; cases e'; exact ⟨rfl, rfl⟩
    | more e' _ => rw [e] at e'; cases e'
  | more e _ ih =>
    intro m r' g
    cases g with
    | done e' => rw [e] at e'; cases e'
    | more e' g' =>
      rw [e] at e'; cases e'
      obtain ⟨h1, h2⟩ := ih g'
      exact ⟨congrArg _ h1, h2⟩
theorem steps_ex {T : Tb N} (ok : Ok T) : ∀ (a b : Nat) (l : Lab N), Nn l → lacks T l = a → total T l = b → ∃ n r, Steps T n l r := by
  intro a
  induction a using Nat.strongRecOn with
  | ind a iha =>
    intro b
    induction b using Nat.strongRecOn with
    | ind b ihb =>
      intro l hn ha hb
      cases hc : (round T l).2 with
      | false => exact ⟨0, (round T l).1, .done (by rw [← hc])⟩
      | true =>
        have nn' := round_nn ok hn
        have : ∃ n r, Steps T n (round T l).1 r := by
          rcases round_less ok hn hc with h | ⟨h1, h2⟩
          · exact iha _ (ha ▸ h) _ _ nn' rfl rfl
          · exact ihb _ (hb ▸ h2) _ nn' (h1.trans ha) rfl
        obtain ⟨n, r, s⟩ := this
        exact ⟨n + 1, r, .more (by rw [← hc]) s⟩
theorem Steps.nn {T : Tb N} (ok : Ok T) {n : Nat} {l r : Lab N} (h : Steps T n l r) : Nn l → Nn r := by
  induction h with
  | done e => intro hn; have := round_nn ok hn; rw [e] at this; exact this
  | more e _ ih => intro hn; have := round_nn ok hn; rw [e] at this; exact ih this

open Classical in
noncomputable def passed (T : Tb N) (l : Lab N) : Lab N := if h : ∃ r, ∃ n, Steps T n l r then h.choose else l
theorem passed_eq {T : Tb N} {n : Nat} {l r : Lab N} (h : Steps T n l r) : passed T l = r := by
  have q : ∃ r, ∃ n, Steps T n l r := ⟨r, n, h⟩
  unfold passed
  rw [dif_pos q]
  obtain ⟨m, g⟩ := q.choose_spec
  exact (g.det h).2
theorem passed_steps {T : Tb N} (ok : Ok T) {l : Lab N} (h : Nn l) : ∃ n, Steps T n l (passed T l) := by
  obtain ⟨n, r, s⟩ := steps_ex ok _ _ l h rfl rfl
  exact ⟨n, by rw [passed_eq s]; exact s⟩
theorem passed_nn {T : Tb N} (ok : Ok T) {l : Lab N} (h : Nn l) : Nn (passed T l) := by
  obtain ⟨n, s⟩ := passed_steps ok h
  exact s.nn ok h

abbrev Kn (N : Type) := List (Tr N × Lab N)
def KnNn (kn : Kn N) : Prop := ∀ t l, look kn t = some l → Nn l

def costOf (kn : Kn N) : List (N × Tr N) → Int → Option Int
  | [], tot => some tot
  | (c, t) :: r, tot => match look ((look kn t).getD []) c with
    | none => none
    | some v => costOf kn r (tot + v)
theorem costOf_cons (kn : Kn N) (c : N) (t : Tr N) (r : List (N × Tr N)) (tot : Int) : costOf kn ((c, t) :: r) tot = match look ((look kn t).getD []) c with
    | none => none
    | some v => costOf kn r (tot + v) := rfl
theorem costOf_nn {kn : Kn N} (h : KnNn kn) : ∀ (hs : List (N × Tr N)) (tot v : Int), 0 ≤ tot → costOf kn hs tot = some v → 0 ≤ v
  | [], tot, v, h0, e => by cases e; exact h0
  | (c, t) :: r, tot, v, h0, e => by
    unfold costOf at e
    split at e
    · cases e
    · rename_i w ew
      refine costOf_nn h r _ v (Int.add_nonneg h0 ?_) e
      cases q : look kn t with
      | none => rw [q] at ew; cases ew
      | some l => rw [q] at ew; exact h t l q _ _ ew

/-- one tile laid at a piece -/
def tileStep (kn : Kn N) (one : Tr N) (l : Lab N) (tl : Tile N) : Lab N :=
  if isHole tl.pat = true then l else match laid tl.pat one with
    | none => l
    | some hs => match costOf kn hs tl.fee with
      | none => l
      | some p => (lessen l tl.cls p).1
theorem tileStep_nn {kn : Kn N} (h : KnNn kn) {one : Tr N} {l : Lab N} {tl : Tile N} (hl : Nn l) (hf : 0 ≤ tl.fee) : Nn (tileStep kn one l tl) := by
  unfold tileStep
  split
  · exact hl
  · split
    · exact hl
    · split
      · exact hl
      · rename_i p ep
        exact lessen_nn hl (costOf_nn h _ _ _ hf ep)
theorem tiles_nn {kn : Kn N} (h : KnNn kn) {one : Tr N} : ∀ (ts : List (Tile N)), (∀ tl ∈ ts, 0 ≤ tl.fee) → ∀ l : Lab N, Nn l → Nn (ts.foldl (tileStep kn one) l)
  | [], _, _, hl => hl
  | tl :: ts, hf, l, hl => tiles_nn h ts (fun x hx => hf x (List.mem_cons_of_mem _ hx)) _ (tileStep_nn h hl (hf tl List.mem_cons_self))

noncomputable def labOf (T : Tb N) (stand : List (Lab N)) (kn : Kn N) : Tr N → Lab N
  | .piece k => (stand[k]?).getD []
  | one => passed T (T.tiles.foldl (tileStep kn one) [])
noncomputable def labStep (T : Tb N) (stand : List (Lab N)) (kn : Kn N) (one : Tr N) : Kn N :=
  if (look kn one).isSome = true then kn else kn ++ [(one, labOf T stand kn one)]
noncomputable def labelIn (T : Tb N) (t : Tr N) (stand : List (Lab N)) : Lab N := (look ((under t).reverse.foldl (labStep T stand) []) t).getD []

def StNn (stand : List (Lab N)) : Prop := ∀ l ∈ stand, Nn l
theorem StNn.at_ {stand : List (Lab N)} (h : StNn stand) (k : Nat) : Nn ((stand[k]?).getD []) := by
  cases e : stand[k]? with
  | none => exact Nn.nil
  | some l => exact h l (List.mem_of_getElem? e)
theorem StNn.snoc {stand : List (Lab N)} (h : StNn stand) {l : Lab N} (hl : Nn l) : StNn (stand ++ [l]) := fun x hx => by
  rcases List.mem_append.mp hx with q | q
  · exact h x q
  · rw [List.mem_singleton] at q; subst q; exact hl
theorem labOf_nn {T : Tb N} (ok : Ok T) {stand : List (Lab N)} (hs : StNn stand) {kn : Kn N} (h : KnNn kn) (one : Tr N) : Nn (labOf T stand kn one) := by
  have key : Nn (passed T (T.tiles.foldl (tileStep kn one) [])) := passed_nn ok (tiles_nn h _ ok.fee _ Nn.nil)
  cases one with
  | piece k => exact hs.at_ k
  | num n => exact key
  | name x => exact key
  | turn a => exact key
  | bin s a b => exact key
theorem KnNn.snoc {kn : Kn N} (h : KnNn kn) {t : Tr N} {l : Lab N} (hl : Nn l) (hn : look kn t = none) : KnNn (kn ++ [(t, l)]) := fun u m e => by
  rw [look_snoc _ _ _ _ hn] at e
  split at e
  · cases e; exact hl
  · exact h u m e
theorem labStep_nn {T : Tb N} (ok : Ok T) {stand : List (Lab N)} (hs : StNn stand) {kn : Kn N} (h : KnNn kn) (one : Tr N) : KnNn (labStep T stand kn one) := by
  unfold labStep
  split
  · exact h
  · rename_i q
    refine h.snoc (labOf_nn ok hs h one) ?_
    cases e : look kn one with
    | none => rfl
    | some x => rw [e] at q; exact (q rfl).elim
theorem labs_nn {T : Tb N} (ok : Ok T) {stand : List (Lab N)} (hs : StNn stand) : ∀ (ts : List (Tr N)) (kn : Kn N), KnNn kn → KnNn (ts.foldl (labStep T stand) kn)
  | [], _, h => h
  | t :: ts, kn, h => labs_nn ok hs ts _ (labStep_nn ok hs h t)
theorem KnNn.nil : KnNn ([] : Kn N) := fun _ _ e => by cases e
theorem labelIn_nn {T : Tb N} (ok : Ok T) {stand : List (Lab N)} (hs : StNn stand) (t : Tr N) : Nn (labelIn T t stand) := by
  unfold labelIn
  have h := labs_nn ok hs (under t).reverse [] KnNn.nil
  cases e : look ((under t).reverse.foldl (labStep T stand) []) t with
  | none => exact Nn.nil
  | some l => exact h _ _ e

/-! what is known after a walk -/
theorem labStep_has {T : Tb N} {stand : List (Lab N)} {kn : Kn N} {one t : Tr N} (h : t = one ∨ (look kn t).isSome = true) : (look (labStep T stand kn one) t).isSome = true := by
  unfold labStep
  split
  · rename_i q
    rcases h with h | h
    · rw [h]; exact q
    · exact h
  · rename_i q
    have hn : look kn one = none := by
      cases e : look kn one with
      | none => rfl
      | some x => rw [e] at q; exact (q rfl).elim
    rw [look_snoc _ _ _ _ hn]
    split
    · rfl
    · rename_i q2
      rcases h with h | h
      · exact (q2 h).elim
      · exact h
theorem labs_keep {T : Tb N} {stand : List (Lab N)} : ∀ (ts : List (Tr N)) (kn : Kn N) (t : Tr N), (look kn t).isSome = true → (look (ts.foldl (labStep T stand) kn) t).isSome = true
  | [], _, _, h => h
  | u :: ts, kn, t, h => labs_keep ts _ t (labStep_has (.inr h))
theorem labs_has {T : Tb N} {stand : List (Lab N)} : ∀ (ts : List (Tr N)) (kn : Kn N) (t : Tr N), t ∈ ts → (look (ts.foldl (labStep T stand) kn) t).isSome = true
  | u :: ts, kn, t, h => by
    rcases List.mem_cons.mp h with e | h
    · exact labs_keep ts _ t (labStep_has (.inl e))
    · exact labs_has ts _ t h
/-- the holes at a piece of the reversed walk are known -/
theorem holes_known {T : Tb N} {stand : List (Lab N)} {t : Tr N} {i : Nat} {one : Tr N} (hi : (under t).reverse[i]? = some one) {p : Pt N} (hp : isHole p = false) {hs : List (N × Tr N)} (e : laid p one = some hs) :
    ∀ h ∈ hs, (look (((under t).reverse.take i).foldl (labStep T stand) []) h.2).isSome = true := by
  intro h hm
  refine labs_has _ _ _ ?_
  have h1 := laid_tail hp e h hm
  have hlt : i < (under t).reverse.length := (List.getElem?_eq_some_iff.mp hi).1
  have e1 : (under t).reverse = (under t).reverse.take i ++ one :: (under t).reverse.drop (i + 1) := by
    have e3 : (under t).reverse[i] = one := (List.getElem?_eq_some_iff.mp hi).2
    have e4 := List.drop_eq_getElem_cons hlt
    rw [e3] at e4
    rw [← e4, List.take_append_drop]
  have e2 : under t = ((under t).reverse.drop (i + 1)).reverse ++ one :: ((under t).reverse.take i).reverse := by
    have := congrArg List.reverse e1
    rw [List.reverse_reverse, List.reverse_append, List.reverse_cons, List.append_assoc] at this
    exact this
  exact List.mem_reverse.mp (under_split t _ _ _ e2 _ h1)
theorem top_known {T : Tb N} {stand : List (Lab N)} (t : Tr N) : (look ((under t).reverse.foldl (labStep T stand) []) t).isSome = true :=
  labs_has _ _ _ (List.mem_reverse.mpr (self_under t))

/-! ### webs -/
noncomputable def webLabels (T : Tb N) : List (Tr N) → List (Lab N) → List (Lab N)
  | [], st => st
  | t :: ws, st => webLabels T ws (st ++ [labelIn T t st])

def freeLab (T : Tb N) : Lab N := T.classes.foldl (fun l c => put l c 0) []
theorem free_has (cs : List N) : ∀ (l : Lab N) (c : N), c ∈ cs ∨ look l c = some 0 → look (cs.foldl (fun l c => put l c 0) l) c = some 0 := by
  induction cs with
  | nil => intro l c h; rcases h with h | h; cases h; exact h
  | cons d cs ih =>
    intro l c h
    refine ih _ c ?_
    rcases h with h | h
    · rcases List.mem_cons.mp h with h | h
      · right; rw [look_put, if_pos h]
      · exact .inl h
    · right
      rw [look_put]
      split
      · rfl
      · exact h
theorem free_look {T : Tb N} {c : N} (h : c ∈ T.classes) : look (freeLab T) c = some 0 := free_has _ _ _ (.inl h)
theorem free_nn (T : Tb N) : Nn (freeLab T) := by
  have : ∀ (cs : List N) (l : Lab N), Nn l → Nn (cs.foldl (fun l c => put l c 0) l) := by
    intro cs
    induction cs with
    | nil => intro l h; exact h
    | cons d cs ih => intro l h; exact ih _ (h.put (Int.le_refl _))
  exact this _ _ Nn.nil

def goalsPrice (stand : List (Lab N)) : List (Nat × N) → Int → Option Int
  | [], tot => some tot
  | (n, c) :: r, tot => match look ((stand[n]?).getD []) c with
    | none => none
    | some v => goalsPrice stand r (tot + v)
theorem goals_cons (stand : List (Lab N)) (n : Nat) (c : N) (r : List (Nat × N)) (tot : Int) : goalsPrice stand ((n, c) :: r) tot = match look ((stand[n]?).getD []) c with
    | none => none
    | some v => goalsPrice stand r (tot + v) := rfl
theorem goals_nn {stand : List (Lab N)} (h : StNn stand) : ∀ (gs : List (Nat × N)) (tot v : Int), goalsPrice stand gs tot = some v → tot ≤ v
  | [], tot, v, e => by cases e; exact Int.le_refl _
  | (n, c) :: r, tot, v, e => by
    unfold goalsPrice at e
    split at e
    · cases e
    · rename_i w ew
      have := goals_nn h r _ v e
      have := h.at_ n _ _ ew
      omega
/-- pointwise: what the one has, at least the other's -/
def Dom (a b : List (Lab N)) (gs : List (Nat × N)) : Prop := ∀ g ∈ gs, ∀ v, look ((b[g.1]?).getD []) g.2 = some v → ∃ w, look ((a[g.1]?).getD []) g.2 = some w ∧ w ≤ v
theorem goals_mono {a b : List (Lab N)} : ∀ (gs : List (Nat × N)), Dom a b gs → ∀ (s t v : Int), s ≤ t → goalsPrice b gs t = some v → ∃ w, goalsPrice a gs s = some w ∧ w ≤ v
  | [], _, s, t, v, h, e => by cases e; exact ⟨s, rfl, h⟩
  | g :: r, hd, s, t, v, h, e => by
    obtain ⟨n, c⟩ := g
    unfold goalsPrice at e
    split at e
    · cases e
    · rename_i x ex
      obtain ⟨y, ey, hy⟩ := hd (n, c) List.mem_cons_self x ex
      obtain ⟨w, ew, hw⟩ := goals_mono r (fun g hg => hd g (List.mem_cons_of_mem _ hg)) (s + y) (t + x) v (by omega) e
      refine ⟨w, ?_, hw⟩
      unfold goalsPrice
      dsimp only at ey
      rw [ey]
      exact ew

/-- the walk of a front over a web -/
noncomputable def frontGo (T : Tb N) (f : List (Option N)) : List (Tr N) → List (Lab N) → Int → Option (List (Lab N) × Int)
  | [], st, tot => some (st, tot)
  | t :: ws, st, tot => match f[st.length]? with
    | none => frontGo T f ws (st ++ [freeLab T]) tot
    | some none => frontGo T f ws (st ++ [labelIn T t st]) tot
    | some (some c) => match look (labelIn T t st) c with
      | none => none
      | some v => frontGo T f ws (st ++ [passed T [(c, 0)]]) (tot + v)
noncomputable def frontPrice (T : Tb N) (web : List (Tr N)) (goals : List (Nat × N)) (f : List (Option N)) : Option Int :=
  match frontGo T f web [] 0 with
  | none => none
  | some (st, tot) => match goalsPrice st goals 0 with
    | none => none
    | some v => some (tot + v)

theorem one_nn {c : N} : Nn ([(c, 0)] : Lab N) := fun d v e => by
  by_cases h : c = d
  · rw [look_pos (p := (c, 0)) h] at e; cases e; exact Int.le_refl _
  · rw [look_neg (p := (c, 0)) h] at e; cases e
theorem go_nn {T : Tb N} (ok : Ok T) {f : List (Option N)} : ∀ (ws : List (Tr N)) (st : List (Lab N)) (tot : Int) (st' : List (Lab N)) (tot' : Int), StNn st → frontGo T f ws st tot = some (st', tot') → StNn st' ∧ tot ≤ tot'
  | [], st, tot, st', tot', h, e => by
    cases e
    exact ⟨h, Int.le_refl _⟩
  | t :: ws, st, tot, st', tot', h, e => by
    unfold frontGo at e
    split at e
    · exact go_nn ok ws _ _ _ _ (h.snoc (free_nn T)) e
    · exact go_nn ok ws _ _ _ _ (h.snoc (labelIn_nn ok h t)) e
    · split at e
      · cases e
      · rename_i v ev
        have := labelIn_nn ok h t _ _ ev
        obtain ⟨q1, q2⟩ := go_nn ok ws _ _ _ _ (h.snoc (passed_nn ok one_nn)) e
        exact ⟨q1, by omega⟩
theorem front_nn {T : Tb N} (ok : Ok T) {web : List (Tr N)} {goals : List (Nat × N)} {f : List (Option N)} {v : Int} (e : frontPrice T web goals f = some v) : 0 ≤ v := by
  unfold frontPrice at e
  split at e
  · cases e
  · rename_i st tot eg
    obtain ⟨q1, q2⟩ := go_nn ok web [] 0 st tot (fun _ h => by cases h) eg
    split at e
    · cases e
    · rename_i w ew
      cases e
      have := goals_nn q1 _ _ _ ew
      omega

/-- behind the front all is free -/
theorem go_free {T : Tb N} {f : List (Option N)} : ∀ (ws : List (Tr N)) (st : List (Lab N)) (tot : Int), f.length ≤ st.length → frontGo T f ws st tot = some (st ++ List.replicate ws.length (freeLab T), tot)
  | [], st, tot, _ => by simp [frontGo]
  | t :: ws, st, tot, h => by
    unfold frontGo
    rw [List.getElem?_eq_none h]
    dsimp only
    rw [go_free ws _ _ (by rw [List.length_append]; omega), List.append_assoc]
    rfl
/-- two fronts that agree where the walk asks -/
theorem go_same {T : Tb N} {f g : List (Option N)} : ∀ (ws : List (Tr N)) (st : List (Lab N)) (tot : Int), (∀ i, i < st.length + ws.length → f[i]? = g[i]?) → frontGo T f ws st tot = frontGo T g ws st tot
  | [], st, tot, _ => rfl
  | t :: ws, st, tot, h => by
    have e : f[st.length]? = g[st.length]? := h _ (by rw [List.length_cons]; omega)
    have ih : ∀ (l : Lab N) (tot : Int), frontGo T f ws (st ++ [l]) tot = frontGo T g ws (st ++ [l]) tot := fun l tot =>
      go_same ws _ tot fun i hi => h i (by
        rw [List.length_append, List.length_singleton] at hi
        rw [List.length_cons]; omega)
    unfold frontGo
    rw [e]
    simp only [ih]
theorem go_app {T : Tb N} {f : List (Option N)} : ∀ (ws vs : List (Tr N)) (st : List (Lab N)) (tot : Int), frontGo T f (ws ++ vs) st tot = match frontGo T f ws st tot with
    | none => none
    | some (st', tot') => frontGo T f vs st' tot'
  | [], vs, st, tot => rfl
  | t :: ws, vs, st, tot => by
    rw [List.cons_append]
    conv => lhs; unfold frontGo
    conv => rhs; rw [show frontGo T f (t :: ws) st tot = (match f[st.length]? with
      | none => frontGo T f ws (st ++ [freeLab T]) tot
      | some none => frontGo T f ws (st ++ [labelIn T t st]) tot
      | some (some c) => match look (labelIn T t st) c with
        | none => none
        | some v => frontGo T f ws (st ++ [passed T [(c, 0)]]) (tot + v)) from rfl]
    split
    · exact go_app ws vs _ _
    · exact go_app ws vs _ _
    · split
      · rfl
      · exact go_app ws vs _ _
theorem go_len {T : Tb N} {f : List (Option N)} : ∀ (ws : List (Tr N)) (st : List (Lab N)) (tot : Int) (st' : List (Lab N)) (tot' : Int), frontGo T f ws st tot = some (st', tot') → st'.length = st.length + ws.length
  | [], st, tot, st', tot', e => by cases e; rfl
  | t :: ws, st, tot, st', tot', e => by
    unfold frontGo at e
    split at e
    · rw [go_len ws _ _ _ _ e, List.length_append, List.length_singleton, List.length_cons]; omega
    · rw [go_len ws _ _ _ _ e, List.length_append, List.length_singleton, List.length_cons]; omega
    · split at e
      · cases e
      · rw [go_len ws _ _ _ _ e, List.length_append, List.length_singleton, List.length_cons]; omega

/-- ONE STEP: a front one longer costs no less -/
theorem front_mono {T : Tb N} (ok : Ok T) {web : List (Tr N)} {goals : List (Nat × N)} (hg : ∀ g ∈ goals, g.2 ∈ T.classes) {f : List (Option N)} {s : Nat} (hs : s < web.length) (hf : s < f.length)
    {v : Int} (e : frontPrice T web goals (f.take (s + 1)) = some v) : ∃ w, frontPrice T web goals (f.take s) = some w ∧ w ≤ v := by
  have ew : web = web.take s ++ web[s] :: web.drop (s + 1) := by
    rw [← List.drop_eq_getElem_cons hs, List.take_append_drop]
  generalize web[s] = t at ew
  generalize hw1 : web.take s = ws at ew
  generalize web.drop (s + 1) = vs at ew
  have hwl : ws.length = s := by rw [← hw1, List.length_take]; omega
  subst ew
  have agree : frontGo T (f.take (s + 1)) ws [] 0 = frontGo T (f.take s) ws [] 0 := go_same ws [] 0 fun i hi => by
    rw [List.length_nil, Nat.zero_add, hwl] at hi
    rw [List.getElem?_take, List.getElem?_take, if_pos (by omega), if_pos hi]
  unfold frontPrice at e ⊢
  rw [go_app] at e ⊢
  rw [agree] at e
  cases eg : frontGo T (f.take s) ws [] 0 with
  | none => rw [eg] at e; cases e
  | some p =>
    obtain ⟨st, tot⟩ := p
    rw [eg] at e
    dsimp only at e ⊢
    have hl : st.length = s := by
      have := go_len _ _ _ _ _ eg
      rw [List.length_nil] at this
      omega
    have nn := (go_nn ok ws [] 0 st tot (fun _ h => by cases h) eg).1
    -- the shorter
    have eshort : frontGo T (f.take s) (t :: vs) st tot = some (st ++ freeLab T :: List.replicate vs.length (freeLab T), tot) := by
      rw [go_free _ _ _ (by rw [List.length_take]; omega)]
      rfl
    rw [eshort]
    dsimp only
    -- the longer: some label in its place
    have elong : ∃ (X : Lab N) (x : Int), Nn X ∧ 0 ≤ x ∧ frontGo T (f.take (s + 1)) (t :: vs) st tot = some (st ++ X :: List.replicate vs.length (freeLab T), tot + x) := by
      have hk : ∀ (X : Lab N) (tt : Int), frontGo T (f.take (s + 1)) vs (st ++ [X]) tt = some (st ++ X :: List.replicate vs.length (freeLab T), tt) := fun X tt => by
        rw [go_free _ _ _ (by rw [List.length_take, List.length_append, List.length_singleton]; omega), List.append_assoc]
        rfl
      have ef : (f.take (s + 1))[st.length]? = some f[s] := by
        rw [hl, List.getElem?_take, if_pos (by omega), List.getElem?_eq_getElem hf]
      cases ec : f[s] with
      | none =>
        refine ⟨labelIn T t st, 0, labelIn_nn ok nn t, Int.le_refl _, ?_⟩
        unfold frontGo
        rw [ef, ec]
        dsimp only
        rw [hk, Int.add_zero]
      | some c =>
        cases el : look (labelIn T t st) c with
        | none =>
          exfalso
          have z : frontGo T (f.take (s + 1)) (t :: vs) st tot = none := by
            unfold frontGo
            rw [ef, ec]
            dsimp only
            rw [el]
          rw [z] at e
          cases e
        | some x =>
          refine ⟨passed T [(c, 0)], x, passed_nn ok one_nn, labelIn_nn ok nn t _ _ el, ?_⟩
          unfold frontGo
          rw [ef, ec]
          dsimp only
          rw [el]
          exact hk _ _
    obtain ⟨X, x, hX, hx, elong⟩ := elong
    rw [elong] at e
    dsimp only at e
    cases eq : goalsPrice (st ++ X :: List.replicate vs.length (freeLab T)) goals 0 with
    | none => rw [eq] at e; cases e
    | some b =>
      rw [eq] at e
      cases e
      obtain ⟨a, ea, hab⟩ := goals_mono (a := st ++ freeLab T :: List.replicate vs.length (freeLab T)) (b := st ++ X :: List.replicate vs.length (freeLab T)) goals (fun g hgm v ev => by
        by_cases q : g.1 = st.length
        · refine ⟨0, ?_, ?_⟩
          · rw [q, List.getElem?_append_right (Nat.le_refl _), Nat.sub_self]
            exact free_look (hg g hgm)
          · rw [q, List.getElem?_append_right (Nat.le_refl _), Nat.sub_self] at ev
            exact hX _ _ ev
        · refine ⟨v, ?_, Int.le_refl _⟩
          rw [← ev]
          congr 2
          by_cases q2 : g.1 < st.length
          · rw [List.getElem?_append_left q2, List.getElem?_append_left q2]
          · rw [List.getElem?_append_right (by omega), List.getElem?_append_right (by omega)]
            obtain ⟨j, hj⟩ : ∃ j, g.1 - st.length = j + 1 := ⟨g.1 - st.length - 1, by omega⟩
            rw [hj, List.getElem?_cons_succ, List.getElem?_cons_succ]) 0 0 b (Int.le_refl _) eq
      rw [ea]
      exact ⟨tot + a, rfl, by omega⟩

/-! ### the front that keeps nothing -/
theorem go_none {T : Tb N} {n : Nat} : ∀ (ws : List (Tr N)) (st : List (Lab N)) (tot : Int), st.length + ws.length ≤ n → frontGo T (List.replicate n none) ws st tot = some (webLabels T ws st, tot)
  | [], st, tot, _ => rfl
  | t :: ws, st, tot, h => by
    rw [List.length_cons] at h
    unfold frontGo webLabels
    rw [List.getElem?_replicate, if_pos (by omega)]
    dsimp only
    exact go_none ws _ _ (by rw [List.length_append, List.length_singleton]; omega)
theorem front_none {T : Tb N} {web : List (Tr N)} {goals : List (Nat × N)} : frontPrice T web goals (List.replicate web.length none) = goalsPrice (webLabels T web []) goals 0 := by
  unfold frontPrice
  rw [go_none web [] 0 (by simp)]
  dsimp only
  cases goalsPrice (webLabels T web []) goals 0 with
  | none => rfl
  | some v => exact congrArg some (Int.zero_add v)
/-- what is due, goal by goal -/
def dueOf (stand : List (Lab N)) (goals : List (Nat × N)) : List (Option Int) := goals.map fun g => look ((stand[g.1]?).getD []) g.2
theorem goals_none {stand : List (Lab N)} : ∀ (gs : List (Nat × N)) (tot : Int), none ∈ dueOf stand gs → goalsPrice stand gs tot = none
  | g :: r, tot, h => by
    obtain ⟨n, c⟩ := g
    unfold goalsPrice
    rcases List.mem_cons.mp h with h | h
    · have h' : look ((stand[n]?).getD []) c = none := h.symm
      rw [h']
    · split
      · rfl
      · exact goals_none r _ h
theorem goals_some {stand : List (Lab N)} : ∀ (gs : List (Nat × N)) (tot : Int), none ∉ dueOf stand gs → goalsPrice stand gs tot = some (tot + ((dueOf stand gs).map fun o => o.getD 0).sum)
  | [], tot, _ => by simp [goalsPrice, dueOf]
  | g :: r, tot, h => by
    obtain ⟨n, c⟩ := g
    unfold goalsPrice
    have h1 : look ((stand[n]?).getD []) c ≠ none := fun e => h (by rw [dueOf, List.map_cons]; exact List.mem_cons.mpr (.inl e.symm))
    have h2 : none ∉ dueOf stand r := fun e => h (by rw [dueOf, List.map_cons]; exact List.mem_cons_of_mem _ e)
    cases e : look ((stand[n]?).getD []) c with
    | none => exact (h1 e).elim
    | some v =>
      dsimp only
      rw [goals_some r _ h2]
      simp only [dueOf, List.map_cons, List.sum_cons, e, Option.getD_some]
      rw [Int.add_assoc]
theorem webLabels_len {T : Tb N} : ∀ (ws : List (Tr N)) (st : List (Lab N)), (webLabels T ws st).length = st.length + ws.length
  | [], st => rfl
  | t :: ws, st => by
    unfold webLabels
    rw [webLabels_len ws, List.length_append, List.length_singleton, List.length_cons]; omega
theorem webLabels_nn {T : Tb N} (ok : Ok T) : ∀ (ws : List (Tr N)) (st : List (Lab N)), StNn st → StNn (webLabels T ws st)
  | [], st, h => h
  | t :: ws, st, h => by
    unfold webLabels
    exact webLabels_nn ok ws _ (h.snoc (labelIn_nn ok h t))
end
end M50

/-! Rules that the hand layer lacks: a dict whose keys are nested tuples; text * int; tuple * 1. -/
namespace K50
open PySem PySem.Spec PyProof.Rows L2

/-! ### keys of any depth in the abstract heap -/
mutual
def NkAt (H : Hp) : NestedKey → V → Prop
  | .none, v => v = .non
  | .num i, v => v = .int i
  | .text x, v => v = .str x
  | .tup ks, v => ∃ b vs, v = .ref b ∧ H b = some (.tup vs) ∧ NkAll H ks vs
def NkAll (H : Hp) : List NestedKey → List V → Prop
  | [], vs => vs = []
  | k :: ks, vs => ∃ x r, vs = x :: r ∧ NkAt H k x ∧ NkAll H ks r
end
mutual
theorem NkAt.keep {H H' : Hp} (t : ∀ b xs, H b = some (.tup xs) → H' b = some (.tup xs)) : ∀ (k : NestedKey) (v : V), NkAt H k v → NkAt H' k v
  | .none, v, h => h
  | .num i, v, h => h
  | .text x, v, h => h
  | .tup ks, v, h => by
    obtain ⟨b, vs, e, hb, r⟩ := h
    exact ⟨b, vs, e, t _ _ hb, NkAll.keep t ks vs r⟩
theorem NkAll.keep {H H' : Hp} (t : ∀ b xs, H b = some (.tup xs) → H' b = some (.tup xs)) : ∀ (ks : List NestedKey) (vs : List V), NkAll H ks vs → NkAll H' ks vs
  | [], vs, h => h
  | k :: ks, vs, h => by
    obtain ⟨x, r, e, h1, h2⟩ := h
    exact ⟨x, r, e, NkAt.keep t k x h1, NkAll.keep t ks r h2⟩
end
mutual
theorem nk_is {P : Program} {w : World} {H : Hp} {h : Heap} (ok : HOk P w H h) : ∀ (k : NestedKey) (v : V) (u : Value), NkAt H k v → RelV v u → NestedIs h k u
  | .none, v, u, hk, r => by
    have e : v = .non := hk
    subst e
    cases r
    exact .none
  | .num i, v, u, hk, r => by
    have e : v = .int i := hk
    subst e
    obtain ⟨t, rfl⟩ := r
    exact .int _ _
  | .text x, v, u, hk, r => by
    have e : v = .str x := hk
    subst e
    obtain ⟨t, rfl⟩ := r
    exact .text _ _
  | .tup ks, v, u, hk, r => by
    obtain ⟨b, vs, e, hb, ha⟩ := hk
    subst e
    cases r
    obtain ⟨_, its, rv, o, h1, h2, n, h3⟩ := (show ObjOk P w H h b (.tup vs) from ok b _ hb)
    exact .tup h1 h2 h3 (by simpa using nk_all ok ks vs its ha rv)
theorem nk_all {P : Program} {w : World} {H : Hp} {h : Heap} (ok : HOk P w H h) : ∀ (ks : List NestedKey) (vs : List V) (us : List Value), NkAll H ks vs → Vals vs us → NestedAll h ks us
  | [], vs, us, hk, r => by
    have e : vs = [] := hk
    subst e
    cases r
    exact .nil
  | k :: ks, vs, us, hk, r => by
    obtain ⟨x, y, e, h1, h2⟩ := hk
    subst e
    cases r with
    | cons a b => exact .cons (nk_is ok k x _ h1 a) (nk_all ok ks y _ h2 b)
end

/-- an object that stands as o -/
def Raw (a : Addr) (o : Obj) : HO := .ext fun h => h.get? a = some o
theorem raw_ok {P : Program} {w : World} {H : Hp} {h : Heap} {a : Addr} {o : Obj} (e : h.get? a = some o) : ObjOk P w H h a (Raw a o) := ⟨e, ⟨o, e⟩, fun _ _ e1 k => k o e1⟩

abbrev KN (H : Hp) : List (NestedKey × V) → List (NestedKey × Addr × Value) → Prop := Paired fun p q => p.1 = q.1 ∧ NkAt H p.1 (.ref q.2.1) ∧ p.1.depth ≤ 8 ∧ RelV p.2 q.2.2
/-- a dict with nested keys stands at a -/
def ND (P : Program) (w : World) (H : Hp) (a : Addr) (kvs : List (NestedKey × V)) : Prop :=
  kvs.length ≤ sizeLine ∧ (a == sysModules) = false ∧ ∃ (xs : List (NestedKey × Addr × Value)) (o : Obj) (es : Array DictEntry) (ep : Nat),
    H a = some (Raw a o) ∧ o.ExactDict ∧ o.data = .dict es ep ∧ es.toList = xs.map (entryOfKey (nestedKind P w)) ∧ (xs.map (·.1)).Nodup ∧ KN H kvs xs

theorem KN.keep {H H' : Hp} {kvs : List (NestedKey × V)} {xs : List (NestedKey × Addr × Value)} (r : KN H kvs xs) (t : ∀ b ys, H b = some (.tup ys) → H' b = some (.tup ys)) : KN H' kvs xs :=
  Paired.mapP r fun _ _ z => ⟨z.1, NkAt.keep t _ _ z.2.1, z.2.2⟩
theorem ND.same {P : Program} {w : World} {H H' : Hp} {a : Addr} {kvs : List (NestedKey × V)} (d : ND P w H a kvs) (s : Same H H') : ND P w H' a kvs := by
  obtain ⟨z, y, xs, o, es, ep, e, h1, h2, h3, h4, r⟩ := d
  exact ⟨z, y, xs, o, es, ep, s _ _ e, h1, h2, h3, h4, r.keep fun b ys q => s _ _ q⟩
theorem ND.there {P : Program} {w : World} {H : Hp} {a : Addr} {kvs : List (NestedKey × V)} (d : ND P w H a kvs) : ∃ o, H a = some (Raw a o) := by
  obtain ⟨z, y, xs, o, es, ep, e, _⟩ := d
  exact ⟨o, e⟩

theorem KN.val {H : Hp} {kvs : List (NestedKey × V)} {xs : List (NestedKey × Addr × Value)} (r : KN H kvs xs) (k : NestedKey) : RelO (valV kvs k) ((atKey xs k).map (·.2)) := by
  induction r with
  | nil => exact True.intro
  | @cons p q ps qs h t ih =>
    obtain ⟨h1, _, _, h2⟩ := h
    by_cases e : p.1 = k
    · have e' : q.1 = k := h1.symm.trans e
      have b : atKey (q :: qs) k = some q.2 := by simp [atKey, List.find?_cons, e']
      rw [valV_pos e, b]; exact h2
    · have e' : ¬ q.1 = k := fun z => e (h1.trans z)
      have b : atKey (q :: qs) k = atKey qs k := by simp [atKey, List.find?_cons, e']
      rw [valV_neg e, b]; exact ih
theorem KN.repl {H : Hp} {kvs : List (NestedKey × V)} {xs : List (NestedKey × Addr × Value)} (r : KN H kvs xs) (k : NestedKey) {y : V} {u : Value} (ry : RelV y u) :
    KN H (kvs.map fun kv => if kv.1 = k then (kv.1, y) else kv) (xs.map (putAt k u)) := by
  induction r with
  | nil => exact .nil
  | @cons p q ps qs h t ih =>
    rw [List.map_cons, List.map_cons]
    refine .cons ?_ ih
    obtain ⟨h1, h2, h3, h4⟩ := h
    unfold putAt
    by_cases e : p.1 = k
    · rw [if_pos e, if_pos (h1.symm.trans e)]; exact ⟨h1, h2, h3, ry⟩
    · rw [if_neg e, if_neg (fun z => e (h1.trans z))]; exact ⟨h1, h2, h3, h4⟩
theorem KN.put {H : Hp} {kvs : List (NestedKey × V)} {xs : List (NestedKey × Addr × Value)} (r : KN H kvs xs) (k : NestedKey) {b : Addr} {y : V} {u : Value} (hb : NkAt H k (.ref b)) (hd : k.depth ≤ 8) (ry : RelV y u) :
    KN H (putK kvs k y) (storedH xs k b u) := by
  have e : (kvs.any fun kv => decide (kv.1 = k)) = (atKey xs k).isSome := by
    rw [valV_any, (r.val k).isSome_eq, Option.isSome_map]
  unfold putK storedH
  rw [e]
  by_cases q : (atKey xs k).isSome = true
  · rw [if_pos q, if_pos q]; exact r.repl k ry
  · rw [if_neg q, if_neg q]; exact Paired.snoc r ⟨rfl, hb, hd, ry⟩

section
variable {P : Program} {w : World} {H : Hp} {h : Heap} {a : Addr}
theorem nk_key {k : NestedKey} {b : Addr} (ok : HOk P w H h) (hk : NkAt H k (.ref b)) (hd : k.depth ≤ 8) : (nestedKind P w).is h k b := ⟨nk_is ok k _ _ hk rfl, hd⟩
theorem ND.dict {kvs : List (NestedKey × V)} (ok : HOk P w H h) (d : ND P w H a kvs) : ∃ xs, KN H kvs xs ∧ h.DictOfH (nestedKind P w) a xs := by
  obtain ⟨z, y, xs, o, es, ep, e, h1, h2, h3, h4, r⟩ := d
  have eo : h.get? a = some o := (ok a _ e).1
  refine ⟨xs, r, o, es, ep, eo, h1, h2, h3, fun x hx => ?_, h4⟩
  have all : ∀ {l : List (NestedKey × V)} {m : List (NestedKey × Addr × Value)}, KN H l m → ∀ x ∈ m, (nestedKind P w).is h x.1 x.2.1 := by
    intro l m q
    induction q with
    | nil => intro x hx; exact nomatch hx
    | @cons p q ps qs hq t ih =>
      intro x hx
      rcases List.mem_cons.mp hx with e | hx
      · subst e
        obtain ⟨q1, q2, q3, _⟩ := hq
        rw [q1] at q2 q3
        exact nk_key ok q2 q3
      · exact ih x hx
  exact all r x hx
end

section
variable {X : Cx} {pins : List (Addr × Obj)} {σ : L2.St} {H : Hp} {s : Shared} {a b : Addr} {k : NestedKey} {kvs : List (NestedKey × V)} {v : V} {r : Value} {A : Around} {E : Value → Shared → Prop}
theorem room8 (hu : A.units + 9 < cLine) : (nestedKind X.prog X.w).room A.in1 := by
  show A.units + 1 + 8 < cLine
  omega
theorem n_getItem {Q : Value → Shared → Prop} (hu : A.units + 9 < cLine) (I : Inv X pins σ H s) (d : ND X.prog X.w H a kvs) (hk : NkAt H k (.ref b)) (hd : k.depth ≤ 8) (l : valV kvs k = some v)
    (h : ∀ w' s', Inv X pins σ H s' → RelV v w' → Q w' s') : wpAny (model X.prog X.w) A (getItem (.ref a) (.ref b)) Q E s := by
  obtain ⟨xs, rel, dd⟩ := d.dict I.hok
  obtain ⟨w', hw, rw'⟩ := RelO.some_of (v := v) (o := (atKey xs k).map (·.2)) (by rw [← l]; exact rel.val k)
  obtain ⟨p, hp, hp2⟩ := Option.map_eq_some_iff.mp hw
  refine wpAny_getItem_heap (room8 hu) (nk_key I.hok hk hd) dd hp ?_
  rw [hp2]
  exact h w' _ (I.tok _) rw'
theorem n_in {Q : Value → Shared → Prop} (hu : A.units + 9 < cLine) (I : Inv X pins σ H s) (d : ND X.prog X.w H a kvs) (hk : NkAt H k (.ref b)) (hd : k.depth ≤ 8)
    (h : ∀ s', Inv X pins σ H s' → Q (.bool (valV kvs k).isSome) s') : wpAny (model X.prog X.w) A (compareOp .In (.ref b) (.ref a)) Q E s := by
  have hm := d.2.1
  obtain ⟨xs, rel, dd⟩ := d.dict I.hok
  refine wpAny_in_heap (room8 hu) (nk_key I.hok hk hd) hm dd ?_
  have q := (rel.val k).isSome_eq
  rw [Option.isSome_map] at q
  rw [← q]
  exact h _ (I.tok _)
theorem n_notIn {Q : Value → Shared → Prop} (hu : A.units + 9 < cLine) (I : Inv X pins σ H s) (d : ND X.prog X.w H a kvs) (hk : NkAt H k (.ref b)) (hd : k.depth ≤ 8)
    (h : ∀ s', Inv X pins σ H s' → Q (.bool (!(valV kvs k).isSome)) s') : wpAny (model X.prog X.w) A (compareOp .NotIn (.ref b) (.ref a)) Q E s := by
  have hm := d.2.1
  obtain ⟨xs, rel, dd⟩ := d.dict I.hok
  refine wpAny_notIn_heap (room8 hu) (nk_key I.hok hk hd) hm dd ?_
  have q := (rel.val k).isSome_eq
  rw [Option.isSome_map] at q
  rw [← q]
  exact h _ (I.tok _)
theorem n_setItem {Q : Unit → Shared → Prop} (hu : A.units + 9 < cLine) (I : Inv X pins σ H s) (d : ND X.prog X.w H a kvs) (hl : kvs.length < sizeLine) (hk : NkAt H k (.ref b)) (hd : k.depth ≤ 8) (rv : RelV v r)
    (h : ∀ o s', ND X.prog X.w (upd H a o) a (putK kvs k v) → Inv X pins σ (upd H a o) s' → Q () s') : wpAny (model X.prog X.w) A (setItem (.ref a) (.ref b) r) Q E s := by
  obtain ⟨o0, e0⟩ := d.there
  have hm := d.2.1
  obtain ⟨xs, rel, dd⟩ := d.dict I.hok
  have hz : xs.length ≤ sizeLine := by rw [← Paired.length rel]; omega
  refine wpAny_setItem_heap (hsz := hz) (room8 hu) (nk_key I.hok hk hd) dd fun h' dd' hs => ?_
  obtain ⟨q, es, ep, hq, h2, h3, h4, _, h5⟩ := dd'
  refine h (Raw a q) _ ⟨?_, hm, _, q, es, ep, upd_same, h2, h3, h4, h5, (rel.put k hk hd rv).keep fun c ys ec => ?_⟩ (d_write (t' := s.toks + (nestedKind X.prog X.w).draws k) I (by rw [e0]; exact True.intro) hs ⟨q, hq⟩ (raw_ok hq))
  · have := length_putK kvs k v
    omega
  · rw [upd_ne (ne_of ec e0 (fun z => nomatch z))]
    exact ec
theorem nd_typeIs (I : Inv X pins σ H s) (d : ND X.prog X.w H a kvs) : s.TypeIs (.ref a) "dict" := by
  obtain ⟨xs, rel, dd⟩ := d.dict I.hok
  exact dd.typeIs
end

/-- {} that is to have nested keys -/
def tNNew (P : Program) (w : World) : TE := fun _ H Q => ∀ p o, H p = none → ND P w (upd H p o) p [] → Q (.ref p) (upd H p o)
def tNGet (P : Program) (w : World) (td ty : TE) : TE := fun σ H Q => td σ H fun x H1 => ty σ H1 fun y H2 => ∃ a b k kvs v, x = .ref a ∧ y = .ref b ∧ ND P w H2 a kvs ∧ NkAt H2 k (.ref b) ∧ k.depth ≤ 8 ∧ valV kvs k = some v ∧ Q v H2
def rNIn (P : Program) (w : World) (neg : Bool) : R2 := fun y x H Q => ∃ a b k kvs, x = .ref a ∧ y = .ref b ∧ ND P w H a kvs ∧ NkAt H k (.ref b) ∧ k.depth ≤ 8 ∧ Q (.bl (if neg = true then !(valV kvs k).isSome else (valV kvs k).isSome)) H
def sNPut (P : Program) (w : World) (td ty tv : TE) : TS := fun D σ H => tv σ H fun v H1 => td σ H1 fun x H2 => ty σ H2 fun y H3 => ∃ a b k kvs, x = .ref a ∧ y = .ref b ∧ ND P w H3 a kvs ∧ kvs.length < sizeLine ∧ NkAt H3 k (.ref b) ∧ k.depth ≤ 8 ∧
  ∀ o, ND P w (upd H3 a o) a (putK kvs k v) → D.nx σ (upd H3 a o)
section
variable {X : Cx} {o i e value : Expr} {pos pos' tpos : Pos} {td ty tv : TE}
theorem pe_nnew : PE X (.Dict [] [] pos) (tNNew X.prog X.w) := ⟨fun pins s σ H Q I h => by
  have hn := I.hok.fresh (Nat.le_refl s.heap.objs.size)
  have hg : (s.heap.push { cls := .type "dict", data := .dict #[] }).get? s.heap.objs.size = some { cls := .type "dict", data := .dict #[] } := Heap.get?_push_size _ rfl
  have hm : (s.heap.objs.size == sysModules) = false := beq_eq_false_iff_ne.mpr (Ne.symm (Nat.ne_of_lt I.big))
  refine wpAny_Dict_empty ⟨.ref s.heap.objs.size, _, I.laid (a := s.heap.objs.size) (o := Raw s.heap.objs.size { cls := .type "dict", data := .dict #[] }) (t' := s.toks) (fun _ _ q => Heap.get?_push_of_some _ q) (Nat.le_refl _) (raw_ok hg), rfl, ?_⟩
  exact h _ _ hn ⟨Nat.zero_le _, hm, [], _, #[], 0, upd_same, ⟨rfl, rfl, rfl⟩, rfl, rfl, List.nodup_nil, .nil⟩⟩
theorem pe_nget (hu : X.A.units + 9 < cLine) (ho : PE X o td) (hi : PE X i ty) (hs : NoSl i) : PE X (.Subscript o i pos) (tNGet X.prog X.w td ty) := by
  refine ⟨fun pins s σ H Q I h => ?_⟩
  refine subD_of PySem.F.slot_dict_getitem.lookup hs (thn (ho.run pins s σ H _ I h) fun u s1 ⟨x, H1, I1, rx, q1⟩ => thn (hi.run pins s1 σ H1 _ I1 q1) fun iv s2 ⟨y, H2, I2, ry, a, b, k, kvs, v, ex, ey, d, hk, hd, l, q2⟩ => ?_)
  subst ex ey
  obtain rfl : u = Value.ref a := rx
  obtain rfl : iv = Value.ref b := ry
  exact ⟨nd_typeIs I2 d, n_getItem hu I2 d hk hd l fun w' s3 I3 rw' => ⟨v, H2, I3, rw', q2⟩⟩
theorem op_nin (hu : X.A.units + 9 < cLine) : OpR X (compareOp .In) (rNIn X.prog X.w false) := by
  intro pins s σ H y x v u Q I ry rx h
  obtain ⟨a, b, k, kvs, rfl, rfl, d, hk, hd, q⟩ := h
  cases rx
  cases ry
  exact n_in hu I d hk hd fun s' I' => ⟨.bl (valV kvs k).isSome, H, I', rfl, q⟩
theorem op_nnotin (hu : X.A.units + 9 < cLine) : OpR X (compareOp .NotIn) (rNIn X.prog X.w true) := by
  intro pins s σ H y x v u Q I ry rx h
  obtain ⟨a, b, k, kvs, rfl, rfl, d, hk, hd, q⟩ := h
  cases rx
  cases ry
  exact n_notIn hu I d hk hd fun s' I' => ⟨.bl (!(valV kvs k).isSome), H, I', rfl, q⟩
theorem ps_nput (hu : X.A.units + 9 < cLine) (ho : PE X o td) (hi : PE X i ty) (hv : PE X value tv) (hs : swapsWith value (some (.Subscript o i pos')) pos.line X.env = pure false) :
    PS X (.Assign [.Subscript o i pos'] value pos) (sNPut X.prog X.w td ty tv) := by
  refine ⟨fun pins s σ H D I h => ?_⟩
  refine wpAny_Assign_Subscript (thn (hv.run pins s σ H _ I h) fun r s1 ⟨v, H1, I1, rv, q1⟩ => thn (ho.run pins s1 σ H1 _ I1 q1) fun u s2 ⟨x, H2, I2, rx, q2⟩ => thn (hi.run pins s2 σ H2 _ I2 q2) fun iv s3 ⟨y, H3, I3, ry, a, b, k, kvs, ex, ey, d, hl, hk, hd, q3⟩ => ?_) hs
  subst ex ey
  obtain rfl : u = Value.ref a := rx
  obtain rfl : iv = Value.ref b := ry
  exact n_setItem hu I3 d hl hk hd rv fun ob s4 d4 I4 => ⟨σ, _, I4, q3 ob d4⟩
end
theorem hv_of {A : Around} {k : Nat} (hr : Room k A) : A.units + 9 < cLine := Nat.lt_of_le_of_lt (Nat.add_le_add_left (by decide : 9 ≤ 64) _) hr.units

/-! ### text * int -/
section
variable {X : Cx}
/-- some text of a bounded length -/
theorem op_mulStr : OpR X (binaryOp .Mult) (fun x y H Q => ∃ z i, x = .str z ∧ y = .int i ∧ 0 ≤ i ∧ i ≤ 1000 ∧ z.length ≤ 1 ∧ ∀ z', z'.length ≤ i.toNat → Q (.str z') H) := by
  intro pins s σ H x y v u Q I rx ry h
  obtain ⟨z, i, rfl, rfl, h0, h1, hz, q⟩ := h
  obtain ⟨t, rfl⟩ := rx
  obtain ⟨t', rfl⟩ := ry
  have lz : z.length = z.cps.size := rfl
  have fold : ∀ (n : Nat) (acc : Array Nat), ((List.replicate n z.cps).foldl (· ++ ·) acc).size = acc.size + n * z.cps.size := by
    intro n
    induction n with
    | zero => intro acc; simp
    | succ n ih =>
      intro acc
      rw [List.replicate_succ, List.foldl_cons, ih, Array.size_append, Nat.succ_mul]
      omega
  refine P.mul_str (by rw [decide_eq_false (by omega), decide_eq_false (by omega)]; rfl) (fun g1 g2 => ?_) (fun g1 g2 => ?_) ?_
  · have : (1 : Int) ≤ (2 ^ 63 - 1) / i := by
      rw [Int.le_ediv_iff_mul_le (by omega)]
      omega
    omega
  · show decide (_ > sizeLine) = false
    refine decide_eq_false ?_
    rw [sizeLine_eq]
    have : z.length * i.toNat ≤ 1 * 1000 := Nat.mul_le_mul hz (by omega)
    omega
  · by_cases h2 : i < 1
    · rw [if_pos h2]
      exact ⟨by decide, .str Str.empty, H, I.tok _, ⟨_, rfl⟩, q _ (by show 0 ≤ _; omega)⟩
    · rw [if_neg h2]
      by_cases h3 : (i == 1 || z.length == 0) = true
      · rw [if_pos h3]
        refine ⟨.str z, H, I, ⟨_, rfl⟩, q z (by omega)⟩
      · rw [if_neg h3]
        have e : (Str.mk ((List.replicate i.toNat z.cps).foldl (· ++ ·) #[])).length ≤ i.toNat := by
          show ((List.replicate i.toNat z.cps).foldl (· ++ ·) #[]).size ≤ i.toNat
          rw [fold]
          have : i.toNat * z.cps.size ≤ i.toNat * 1 := Nat.mul_le_mul (Nat.le_refl _) (by rw [← lz]; exact hz)
          have : (#[] : Array Nat).size = 0 := rfl
          omega
        exact ⟨by rw [sizeLine_eq]; omega, .str _, H, I.tok _, ⟨_, rfl⟩, q _ e⟩

end
/-! ### tuple * 1: the tuple itself -/
theorem tuple_mulW1 (l : Addr) (items : Array Value) (n : Nat) (dd : Option Addr) (sl : Array (Option Value)) (x : Int) (u : Tok) (c0 : (decide (x < -(2 ^ 63)) || decide (x ≥ 2 ^ 63)) = false) (c1 : (items.isEmpty || x == 1) = true) :
    Meets (Builtin.«tuple.__mul__» ⟨[.ref l, .int x u], []⟩) (fun _ R s => s.heap.get? l = some { cls := .type "tuple", dict := dd, data := .seq items n, slots := sl } ∧
      R (.ok (.ret (Value.ref l))) s) :=
  .of_wp fun prog w A R s h => by
    obtain ⟨hp, g, d, tk, os⟩ := s
    obtain ⟨hl, h⟩ := h
    have f1 := AutoSeq1.idx_int
    wp_walk using wpAny_loadPart' hl
    repeat (first
      | (refine wpAny_ite_false (decide_eq_false (by rw [c0]; exact Bool.false_ne_true)) ?_; wp_walk using wpAny_loadPart' hl)
      | (refine wpAny_ite_true (decide_eq_true c1) ?_; wp_walk using wpAny_loadPart' hl))
    exact ⟨_, rfl, h⟩
section
variable {X : Cx}
/-- tuple * k, 1 ≤ k: a tuple, perhaps the same one -/
def rRepA (K : PySem.W.Frag) : R2 := fun x y H Q => ∃ l k xs, x = .ref l ∧ y = .int k ∧ SqT K H l xs ∧ xs ≠ [] ∧ 1 ≤ k ∧ k ≤ 1000 ∧ xs.length ≤ 1000 ∧ (k = 1 → Q (.ref l) H) ∧ (2 ≤ k → ∀ p, H p = none → Q (.ref p) (upd H p (.tup (List.replicate k.toNat xs).flatten)))
theorem op_repA : OpR X (binaryOp .Mult) (rRepA X.K) := by
  intro pins s σ H x y v u Q I rx ry h
  obtain ⟨l, k, xs, rfl, rfl, hT, hne, h1, h2, hz, q1, q2⟩ := h
  by_cases hk : k = 1
  · cases rx
    obtain ⟨t, rfl⟩ := ry
    obtain ⟨its, r, ⟨⟨cls, dd, data, sl⟩, ho, hc, n, hd⟩, hs⟩ := I.tuple hT
    simp only at hc hd
    subst hc hd
    have c0 : (decide (k < -(2 ^ 63)) || decide (k ≥ 2 ^ 63)) = false := by
      rw [decide_eq_false (by omega), decide_eq_false (by omega)] <;> rfl
    have c1 : (its.toArray.isEmpty || k == 1) = true := by
      rw [hk]
      simp
    refine wpAny_binaryOp_repeat_ref (T := "tuple") (U := "int") (by decide) ⟨_, ho, rfl⟩ (fun s' => typeIs_int s' k t) noFill_tuple_mul F.fills_int_mul F.slot_int_rmul repeat_tuple F.slot_int_index.lookup
      (call_meets F.slot_int_rmul (typeIs_int s k t) F.entry_int_rmul (F.args_int_rmul_2 _ _) (int_rmul_tuple k t l its.toArray n dd sl)
        ⟨ho, rfl, ⟨_, ho, rfl⟩, call_meets F.slot_tuple_mul ⟨_, ho, rfl⟩ F.entry_tuple_mul (F.args_tuple_mul_2 _ _) (tuple_mulW1 l its.toArray n dd sl k t c0 c1) ⟨ho, ?_⟩⟩)
    exact ⟨.ref l, H, I, rfl, q1 hk⟩
  · exact op_repT pins s σ H _ _ v u Q I rx ry ⟨l, k, xs, rfl, rfl, hT, hne, by omega, h2, hz, q2 (by omega)⟩
end
end K50

/-! More rules: tuple(list) whose object is told, t.index of such; enumerate over a tuple. -/
namespace K50
open PySem PySem.Spec PyProof.Rows L2

section
variable {X : Cx}
/-- a tuple of which it is told that it has no dict of its own -/
def TuF (H : Hp) (a : Addr) (xs : List V) : Prop := ∃ o : Obj, H a = some (.frz o (.tup xs)) ∧ o.dict = none ∧ o.cls = .type "tuple"
theorem TuF.sq {K : PySem.W.Frag} {H : Hp} {a : Addr} {xs : List V} (h : TuF H a xs) : SqT K H a xs := by
  obtain ⟨o, e, _⟩ := h
  exact .inl (.inr ⟨o, e⟩)
theorem TuF.same {H H' : Hp} {a : Addr} {xs : List V} (h : TuF H a xs) (s : Same H H') : TuF H' a xs := by
  obtain ⟨o, e, r⟩ := h
  exact ⟨o, s _ _ e, r⟩
theorem call_tuple_frz : CallR X (.type "tuple") (fun xs H Q => ∃ p ys, xs = [.ref p] ∧ SqL X.K H p ys ∧ ∀ l o, H l = none → TuF (upd H l o) l ys → Q (.ref l) (upd H l o)) := by
  intro pins s σ H xs us Q I r h
  obtain ⟨p, ys, rfl, hq, q⟩ := h
  obtain ⟨u, rfl, rx⟩ := vals1 r
  cases rx
  obtain ⟨its, r', pl, hz⟩ := I.list hq
  have hlen := r'.length
  refine call_tuple_list pl.isList (fun h' kp => ?_) (by simp only [List.size_toArray] <;> omega)
  have I1 : Inv X pins σ H { s with heap := h' } := I.kept (t' := s.toks) kp
  have hg : (h'.push { cls := .type "tuple", data := .seq its.toArray }).get? h'.objs.size = some { cls := .type "tuple", data := .seq its.toArray } := Heap.get?_push_size _ rfl
  have I2 : Inv X pins σ (upd H h'.objs.size (.frz { cls := .type "tuple", data := .seq its.toArray } (.tup ys))) { s with heap := h'.push { cls := .type "tuple", data := .seq its.toArray } } :=
    I1.laid (t' := s.toks) (fun b o e => Heap.get?_push_of_some _ e) (Nat.le_refl _) ⟨hg, hz, its, r', IsTup.new _ _⟩
  exact ⟨.ref h'.objs.size, _, I2, rfl, q _ _ (I1.hok.fresh (Nat.le_refl _)) ⟨_, upd_same, rfl, rfl⟩⟩

/-- t.index(e), texts -/
def tTI (to : TE) (te : TA) : TE := fun σ H Q => to σ H fun x H1 => ∃ p, ∃ ys : List Str, x = .ref p ∧ TuF H1 p (ys.map V.str) ∧ te σ H1 fun vs H2 => ∃ z j, vs = [.str z] ∧ TuF H2 p (ys.map V.str) ∧ ys[j]? = some z ∧ (∀ m, m < j → ys[m]? ≠ some z) ∧ Q (.int (j : Nat)) H2
theorem pe_tupIndex {o e : Expr} {to : TE} {t : TA} {apos cpos : Pos} (ho : PE X o to) (ha : PA X [e] t)
    (hbase : attributeBase o "index" X.env (eval o X.env) = eval o X.env := by rfl)
    (hfew : ((backTo cpos (starEach [e] X.env)).all (fun x => !x.1) && (backToKw cpos (keywordEach [] X.env)).all (fun x => x.1.isSome)
      && decide (([e] : List Expr).length + ([] : List Keyword).length + (if ([] : List Keyword).isEmpty then 0 else 1) < 30)) = true := by rfl)
    (hline : (apos.endLine == cpos.line) = true := by rfl) (hs : starEach [e] X.env = (false, eval e X.env) :: starEach [] X.env := by rfl) (hplain : (backTo cpos (starEach [] X.env)).any (·.1) = false := by rfl) :
    PE X (.Call (.Attribute o "index" apos) [e] [] cpos) (tTI to t) := by
  refine ⟨fun pins s σ H Q I h => ?_⟩
  refine wpAny_Call_method_late hbase hfew hline rfl (thn (ho.run pins s σ H _ I h) fun v s1 ⟨x, H1, I1, r1, p, ys, ex, ht, q1⟩ => ?_)
  subst ex
  cases r1
  obtain ⟨ob, e1, hd, hc⟩ := id ht
  have eo : s1.heap.get? p = some ob := (I1.hok p _ e1).1
  refine ⟨"tuple", _, PySem.F.plainAttrs_tuple, PySem.F.slot_tuple_index, PySem.F.type_tuple_index, ⟨ob, eo, hc⟩, fun b q => ?_, ?_⟩
  · cases q
    exact ⟨ob, eo, hd⟩
  have hA := ha.run cpos pins s1 σ H1 _ I1 q1
  rw [hs] at hA ⊢
  refine Calls.callWith_builtin (by show (false || (backTo cpos (starEach [] X.env)).any (·.1)) = false; rw [hplain] <;> rfl) (Calls.evalArgs_plain ?_)
  exact thn hA fun us s2 ⟨vs, H2, I2, r2, z, j, ev, ht2, hj, hm, q2⟩ => by
    subst ev
    exact mt_tup_index pins s2 σ H2 (.ref p) [.str z] (.ref p) us Q I2 rfl r2 ⟨p, ys, z, j, rfl, rfl, ht2.sq, hj, hm, q2⟩
end

/-! ### enumerate(tuple) -/
set_option maxHeartbeats 1000000 in
theorem meets_enumerate_newB1 {v : Value} {o : Obj} {H : Heap → Prop} (B : Begins v o H) :
    Meets (Builtin.«enumerate.__new__» ⟨[.type "enumerate", v], []⟩) (fun _ R s => H s.heap ∧
      R (.ok (.ret (.ref (s.heap.push o).objs.size))) { s with heap := (s.heap.push o).push { cls := .type "enumerate", data := .fields #[.none, .bool false, .ref s.heap.objs.size, rawInt 0, .none, .none] } }) :=
  .of_wp fun prog w A R s h => by
    obtain ⟨hp, g, d, tk, os⟩ := s; obtain ⟨h1, h⟩ := h
    have hsub := sub_enumerate
    have q1 : ∀ {A' : Around} {E : Value → Shared → Prop} {Q : Value → Shared → Prop}, Q (.ref hp.objs.size) ⟨hp.push o, g, d, tk, os⟩ → wpAny (model prog w) A' (pyIter v) Q E ⟨hp, g, d, tk, os⟩ :=
      fun q => B.iter prog w _ _ ⟨hp, g, d, tk, os⟩ _ h1 q
    wp_walk using q1
    refine wpAny_stack_any fun st => wpAny_pure ?_
    split
    · rename_i c _ _ _ _ _
      cases (c == Value.type "enumerate")
      · wp_walk using q1
        exact ⟨_, rfl, h⟩
      · wp_walk using q1
        exact ⟨_, rfl, h⟩
    · wp_walk using q1
      exact ⟨_, rfl, h⟩
section
variable {prog : Program} {w : World} {A : Around} {E : Value → Shared → Prop} {s : Shared}
theorem enum_begins1 {v : Value} {o : Obj} {H : Heap → Prop} {Q : Value → Shared → Prop} (B : Begins v o H) (h1 : H s.heap)
    (h : ∀ h', IsEnum h' (s.heap.objs.size + 1) s.heap.objs.size 0 .none → h'.get? s.heap.objs.size = some o → h'.objs.size = s.heap.objs.size + 2 →
      (∀ b o, s.heap.get? b = some o → h'.get? b = some o) → Q (.ref (s.heap.objs.size + 1)) { s with heap := h' }) :
    wpAny (model prog w) A (call (.type "enumerate") [v]) Q E s := by
  refine callType_new PySem.F.called_enumerate (by decide) (PySem.F.typeCall_enumerate_1 _) (PySem.F.newCall_enumerate_1 _) (fun obj => PySem.F.args_object_init_2 obj _) PySem.F.entry_enumerate_new
    (meets_enumerate_newB1 B) ⟨h1, ?_⟩
  have hz : (s.heap.push o).objs.size = s.heap.objs.size + 1 := Heap.size_push ..
  show _ ∧ _
  rw [hz]
  have he : IsEnum ((s.heap.push o).push { cls := .type "enumerate", data := .fields #[.none, .bool false, .ref s.heap.objs.size, rawInt 0, .none, .none] }) (s.heap.objs.size + 1) s.heap.objs.size 0 .none := by
    have := Heap.get?_push_size (s.heap.push o) (o := { cls := .type "enumerate", data := .fields #[.none, .bool false, .ref s.heap.objs.size, rawInt 0, .none, .none] }) rfl
    rw [hz] at this; exact this
  refine ⟨⟨_, he, rfl⟩, h _ he (Heap.get?_push_of_some _ (Heap.get?_push_size _ B.free)) (by rw [Heap.size_push, hz]) fun b o x => Heap.get?_push_of_some _ (Heap.get?_push_of_some _ x)⟩
end
/-- the tuple at a as it stands at each turn, each item in a new pair -/
def IteT (K : PySem.W.Frag) (a : Addr) : It :=
  ⟨fun i H => ∃ (xs : List V) (x : V), SqT K H a xs ∧ xs[i]? = some x, fun i H v H' => ∃ T x, v = .ref T ∧ H T = none ∧ H' = upd H T (.tup [.int (i : Nat), x]) ∧ ∀ xs, SqT K H a xs → xs[i]? = some x, fun i H => ∃ xs : List V, SqT K H a xs ∧ xs.length = i⟩
theorem turn_enumT {P : Program} {w : World} {K : PySem.W.Frag} {elts : List Expr} {kk : Nat} {tpos : Pos} (a e it : Addr) :
    Turn P w K (.Tuple elts kk tpos) (IteT K a) [e, it] e (fun i h => (∃ old, IsEnum h e it ((i : Nat) : Int) old) ∧ h.IsTupleIter it a i ∧ e ≠ it) where
  mem := by simp
  obj := fun i h st b hb => by
    obtain ⟨⟨old, he⟩, ⟨o, ho, hc, hd⟩, _⟩ := st
    have e' : b = e ∨ b = it := by simpa using hb
    rcases e' with z | z
    · rw [z]; exact ⟨_, he, fun v q => nomatch q⟩
    · rw [z]; exact ⟨o, ho, fun v q => by rw [hd] at q; cases q⟩
  keep := fun i h h' st k => let ⟨⟨old, he⟩, hi, hne⟩ := st; ⟨⟨old, k e (by simp) _ he⟩, hi.at fun o q => k it (by simp) o q, hne⟩
  item := by
    intro X hP hw hK hc i pins s σ H E I hf st hg
    subst hP hw hK
    obtain ⟨⟨old, he⟩, hit, hne⟩ := st
    obtain ⟨xs, x, hq, hx⟩ := hg
    obtain ⟨its, rv, p, hz⟩ := I.tuple hq
    obtain ⟨u, hu, ru⟩ := rv.get hx
    have hel : e < s.heap.objs.size := Heap.lt_size he
    have hil : it < s.heap.objs.size := by obtain ⟨_, q, _⟩ := hit; exact Heap.lt_size q
    have nea : e ≠ a := fun z => by
      obtain ⟨o, ho, hc', _⟩ := p
      rw [← z, he] at ho
      cases ho
      exact absurd (show Value.type "enumerate" = .type "tuple" from hc') (by decide)
    have nia : a ≠ it := fun z => by
      obtain ⟨o, ho, hc', _⟩ := p
      obtain ⟨o2, ho2, hc2, _⟩ := hit
      rw [z, ho2] at ho
      cases ho
      rw [hc2] at hc'
      exact absurd (show Value.type "tuple_iterator" = .type "tuple" from hc') (by decide)
    have hlt : i < its.toArray.size := by
      have := (List.getElem?_eq_some_iff.mp hu).1
      simpa using this
    refine wpAny_pyNext_enum_itemD (Draws.tuple (prog := X.prog) (w := X.w) (A := X.A.in1) (I.ok.hd hc) it a nia its.toArray) he ⟨hit, p⟩ hlt hne (by simp [hne, nea]) fun u' h' tk hP ho hst' hT hsz hk => ?_
    have hP' : its.toArray[i]? = some u' := hP
    obtain rfl : u' = u := by
      have : its.toArray[i]? = some u := by simpa using hu
      rw [this] at hP'
      exact (Option.some.inj hP').symm
    refine ⟨_, rfl, wpAny_letOwnedTupleGo_enum (s := { s with heap := h', toks := tk + 1 }) ho fun h'' he' sb => ?_⟩
    have hT2 : h''.get? s.heap.objs.size = some { cls := .type "tuple", data := .seq #[.int i tk, u'] } := (sb.2 _ (Nat.ne_of_gt hel)).trans hT
    have new : ObjOk X.prog X.w (upd H s.heap.objs.size (.tup [.int (i : Nat), x])) h'' s.heap.objs.size (.tup [.int (i : Nat), x]) :=
      ⟨by show 2 ≤ sizeLine; decide, [.int i tk, u'], .cons ⟨_, rfl⟩ (.cons ru .nil), ⟨_, hT2, rfl, _, rfl⟩⟩
    have I1 : Inv X pins σ (upd H s.heap.objs.size (.tup [.int (i : Nat), x])) { s with heap := h'', toks := tk + 1 } :=
      I.turnedNew (ch := [e, it]) (fun b ob hb q => (sb.2 b (fun z => hb (by simp [z]))).trans (hk b ob (fun z => hb (by simp [z])) (fun z => hb (by simp [z])) q)) hf (Nat.le_refl _) new
    refine ⟨.ref s.heap.objs.size, _, I1, rfl, ⟨_, x, rfl, I.hok.fresh (Nat.le_refl _), rfl, fun ys hy => by rw [I.tuple_inj hy hq]; exact hx⟩, ⟨⟨u', ?_⟩, hst'.1.at fun o q => (sb.2 it (Ne.symm hne)).trans q, hne⟩, fun b hb => ?_⟩
    · have e1 : ((i + 1 : Nat) : Int) = (i : Int) + 1 := by omega
      rw [e1]; exact he'
    · have hb' : b < s.heap.objs.size := by
        have e' : b = e ∨ b = it := by simpa using hb
        rcases e' with z | z
        · rw [z]; exact hel
        · rw [z]; exact hil
      rw [upd_ne (Nat.ne_of_lt hb')]
      exact (hf b hb).1
  done := by
    intro X hP hw hK hc i pins s σ H E I hf st hg
    subst hP hw hK
    obtain ⟨⟨old, he⟩, hit, hne⟩ := st
    obtain ⟨xs, hq, hx⟩ := hg
    obtain ⟨its, rv, p, hz⟩ := I.tuple hq
    obtain ⟨f0, f1, f2, f3, f4, f5⟩ := hf it (by simp)
    have hl := rv.length
    have nia : a ≠ it := fun z => by
      obtain ⟨o, ho, hc', _⟩ := p
      obtain ⟨o2, ho2, hc2, _⟩ := hit
      rw [z, ho2] at ho
      cases ho
      rw [hc2] at hc'
      exact absurd (show Value.type "tuple_iterator" = .type "tuple" from hc') (by decide)
    have en : its.toArray.size = i := by rw [List.size_toArray, ← hl, hx]
    exact wpAny_pyNext_enum_endD (Draws.tuple (prog := X.prog) (w := X.w) (A := X.A.in1) (I.ok.hd hc) it a nia its.toArray) he ⟨by rw [en]; exact hit, p⟩ fun h' eb => ⟨rfl, I.turned (t' := s.toks) (fun b o hb q => eb b o hb q) f0 f1 f3 f4 f5⟩
  self := fun A i s Q E st h => let ⟨⟨_, he⟩, _⟩ := st; wpAny_pyIter_enum he h
def iEnumT (K : PySem.W.Frag) (ta : TA) : TI := fun σ H R => ta σ H fun vs H1 => ∃ a xs, vs = [.ref a] ∧ SqT K H1 a xs ∧ R (IteT K a) H1
theorem pi_enumT {X : Cx} {e : Expr} {ta : TA} {p pos tpos : Pos} {elts : List Expr} {kk : Nat} (hg : Gl X "enumerate") (hm : X.mg "enumerate" = none) (ha : PA X [e] ta) (hs : starEach [e] X.env = [(false, eval e X.env)] := by rfl) :
    PI X (.Tuple elts kk tpos) (.Call (.Name "enumerate" p) [e] [] pos) (iEnumT X.K ta) := by
  refine ⟨fun pins s σ H R I h => ?_⟩
  refine Call_ (ld_blt I hg hm boot_enumerate (PyProof.Rows.callWith_type1 (thn (ha.run pos pins s σ H _ I h) fun us s1 ⟨vs, H1, I1, r1, q1⟩ => ?_) hs rfl))
  obtain ⟨a, xs, ex, hq, q⟩ := q1
  subst ex
  cases r1 with
  | cons r rr =>
    cases rr
    cases r
    obtain ⟨its, rv, p', hz⟩ := I1.tuple hq
    refine enum_begins1 (begins_tuple a its.toArray) p' fun h' he hit hsz hk => wpAny_pyIter_enum he ?_
    have I2 : Inv X pins σ H1 { s1 with heap := h' } := I1.kept (t' := s1.toks) hk
    refine ⟨s1.heap.objs.size + 1, [s1.heap.objs.size + 1, s1.heap.objs.size], _, _, H1, rfl, I2, turn_enumT a (s1.heap.objs.size + 1) s1.heap.objs.size, ⟨⟨.none, he⟩, ⟨_, hit, rfl, rfl⟩, Nat.succ_ne_self _⟩, fun b hb => ?_, q⟩
    have e' : b = s1.heap.objs.size + 1 ∨ b = s1.heap.objs.size := by simpa using hb
    have hle : s1.heap.objs.size ≤ b := by
      rcases e' with z | z
      · rw [z]; exact Nat.le_add_right _ _
      · rw [z]; exact Nat.le_refl _
    exact I1.fpOk hle (I1.hok.fresh hle)
/-- a loop over enumerate of a tuple -/
theorem for_enumT {K : PySem.W.Frag} {a : Addr} {xs : List V} {g : TG} {tb : TS} {D : Ends} {σ : L2.St} {H : Hp} (Pv : Nat → L2.St → Hp → Prop) (h0 : Pv 0 σ H) (hq : ∀ i σ H, i ≤ xs.length → Pv i σ H → SqT K H a xs)
    (hs : ∀ (i : Nat) (x : V) (T : Addr) (σ : L2.St) (H : Hp), xs[i]? = some x → Pv i σ H → H T = none → g (.ref T) σ (upd H T (.tup [.int (i : Nat), x])) fun σ2 H2 => tb { D with nx := Pv (i + 1), ct := Pv (i + 1), bk := D.nx } σ2 H2) (hd : ∀ σ H, Pv xs.length σ H → D.nx σ H) :
    ∃ W : Nat → Nat → L2.St → Hp → Prop, (∃ m, W 0 m σ H) ∧ ∀ i m σ H, W i m σ H →
      ((IteT K a).stop i H ∧ D.nx σ H) ∨ ((IteT K a).go i H ∧ ∃ N : L2.St → Hp → Prop, (∀ σ' H', N σ' H' → ∃ m', m' < m ∧ W (i + 1) m' σ' H') ∧ ∀ v H', (IteT K a).yld i H v H' → g v σ H' fun σ2 H2 => tb { D with nx := N, ct := N, bk := D.nx } σ2 H2) := by
  refine ⟨fun i m σ H => m = xs.length - i ∧ i ≤ xs.length ∧ Pv i σ H, ⟨xs.length, rfl, Nat.zero_le _, h0⟩, ?_⟩
  rintro i m σ H ⟨rfl, hi, p⟩
  have q := hq i σ H hi p
  by_cases hlt : i < xs.length
  · have hx : xs[i]? = some xs[i] := List.getElem?_eq_getElem hlt
    refine .inr ⟨⟨xs, _, q, hx⟩, Pv (i + 1), fun σ' H' p' => ⟨xs.length - (i + 1), by omega, rfl, hlt, p'⟩, fun v H' y => ?_⟩
    obtain ⟨T, x', rfl, hT, rfl, f1⟩ := y
    exact hs i x' T σ H (f1 xs q) p hT
  · have e : i = xs.length := by omega
    subst e
    exact .inl ⟨⟨xs, q, rfl⟩, hd σ H p⟩
end K50

/-! The text by places, and how data stands in the abstract heap. -/
namespace K50
open PySem PySem.Spec PyProof.Rows L2
open M50 (Tr Pt Tb Tile Sg Lab)

def top (i : Nat) : Stmt := PySem.Challenge.pw_rowsmith_k50_whole_longer_fronts_cost_no.main.body.getD i (.Pass ⟨0, 0, 0, 0⟩)
abbrev sParts : Stmt := top 2
abbrev sLaid : Stmt := top 3
abbrev sLessen : Stmt := top 4
abbrev sPassed : Stmt := top 5
abbrev sCost : Stmt := top 6
abbrev sUnder : Stmt := top 7
abbrev sLabelIn : Stmt := top 8
abbrev sWebLabels : Stmt := top 9
abbrev sFree : Stmt := top 11
abbrev sGoals : Stmt := top 12
abbrev sFront : Stmt := top 13
abbrev sFeed : Stmt := top 15
abbrev sTake : Stmt := top 16
abbrev sUnlike : Stmt := top 17
abbrev sInner : Stmt := top 19
abbrev sPattern : Stmt := top 20
abbrev sTable : Stmt := top 21
abbrev sTree : Stmt := top 22
abbrev sWeb : Stmt := top 23
abbrev sLawGoals : Stmt := top 24
abbrev sLaw : Stmt := top 25

/-- the module's names that are built-ins still, and SIGNS -/
structure Txt (K : PySem.W.Frag) (w : World) (mg : Str → Option Value) : Prop where
  len : mg "len" = none
  list : mg "list" = none
  int : mg "int" = none
  zip : mg "zip" = none
  dict : mg "dict" = none
  reversed : mg "reversed" = none
  tuple : mg "tuple" = none
  range : mg "range" = none
  enumerate : mg "enumerate" = none
  max : mg "max" = none
  min : mg "min" = none
  sum : mg "sum" = none
  signs : ∃ (d : Addr) (es : Array DictEntry) (n : Nat) (v1 v2 v3 v4 : Value), mg "SIGNS" = some (.ref d) ∧ KDict K w d es n ∧
    PySem.W.nsIn K d "turn" = some (some v1) ∧ PySem.W.nsIn K d "sum" = some (some v2) ∧ PySem.W.nsIn K d "less" = some (some v3) ∧ PySem.W.nsIn K d "by" = some (some v4) ∧
    PySem.W.nsIn K d "num" = some none ∧ PySem.W.nsIn K d "name" = some none ∧ PySem.W.nsIn K d "piece" = some none

/-! ### small things -/
theorem Same.upd {H : Hp} {p : Addr} (h : H p = none) (o : HO) : Same H (upd H p o) := fun b u q => by rw [upd_ne (ne_of_none q h)]; exact q
/-- an object that is new to H0 has changed -/
theorem Same.upd_new {H0 H : Hp} {p : Addr} (s : Same H0 H) (h : H0 p = none) (o : HO) : Same H0 (L2.upd H p o) := fun b u q => by rw [upd_ne (ne_of_none q h)]; exact s _ _ q
theorem small {n : Nat} (h : n ≤ 1000) : n ≤ sizeLine := Nat.le_of_lt (small1000 h)
theorem Paired.at_ {α β : Type} {F : α → β → Prop} : ∀ {l : List α} {m : List β}, Paired F l m → ∀ {i : Nat} {b : β}, m[i]? = some b → ∃ a, l[i]? = some a ∧ F a b
  | _, _, .nil, i, b, e => by simp at e
  | _, _, .cons h t, 0, b, e => by simp at e; subst e; exact ⟨_, rfl, h⟩
  | _, _, .cons h t, i + 1, b, e => by
    obtain ⟨a, e1, e2⟩ := Paired.at_ t (i := i) (b := b) (by simpa using e)
    exact ⟨a, by simpa using e1, e2⟩
theorem Paired.at' {α β : Type} {F : α → β → Prop} : ∀ {l : List α} {m : List β}, Paired F l m → ∀ {i : Nat} {a : α}, l[i]? = some a → ∃ b, m[i]? = some b ∧ F a b
  | _, _, .nil, i, b, e => by simp at e
  | _, _, .cons h t, 0, b, e => by simp at e; subst e; exact ⟨_, rfl, h⟩
  | _, _, .cons h t, i + 1, b, e => by
    obtain ⟨a, e1, e2⟩ := Paired.at' t (i := i) (a := b) (by simpa using e)
    exact ⟨a, by simpa using e1, e2⟩
theorem Paired.app {α β : Type} {F : α → β → Prop} : ∀ {l : List α} {m : List β} {l' : List α} {m' : List β}, Paired F l m → Paired F l' m' → Paired F (l ++ l') (m ++ m')
  | _, _, _, _, .nil, q => q
  | _, _, _, _, .cons h t, q => .cons h (Paired.app t q)

/-! ### trees, patterns -/
def sgS : Sg → Str
  | .sum => "sum"
  | .less => "less"
  | .mul => "by"
def TrAt (H : Hp) : Tr Str → Addr → Prop
  | .num n, a => H a = some (.tup [.str "num", .int n])
  | .name x, a => H a = some (.tup [.str "name", .str x])
  | .piece k, a => H a = some (.tup [.str "piece", .int (k : Nat)])
  | .turn t, a => ∃ b, H a = some (.tup [.str "turn", .ref b]) ∧ TrAt H t b
  | .bin s t u, a => ∃ b c, H a = some (.tup [.str (sgS s), .ref b, .ref c]) ∧ TrAt H t b ∧ TrAt H u c
def PtAt (H : Hp) : Pt Str → Addr → Prop
  | .hole c, a => H a = some (.tup [.str "at", .str c])
  | .any, a => H a = some (.tup [.str "any"])
  | .from_ lo hi, a => H a = some (.tup [.str "from", .int lo, .int hi])
  | .turn p, a => ∃ b, H a = some (.tup [.str "turn", .ref b]) ∧ PtAt H p b
  | .bin s p q, a => ∃ b c, H a = some (.tup [.str (sgS s), .ref b, .ref c]) ∧ PtAt H p b ∧ PtAt H q c
/-- all tuples stand -/
def Tups (H H' : Hp) : Prop := ∀ b xs, H b = some (.tup xs) → H' b = some (.tup xs)
theorem Same.tups {H H' : Hp} (s : Same H H') : Tups H H' := fun b xs e => s _ _ e
theorem Tups.upd {H : Hp} {l : Addr} {u : HO} (h : H l = some u) (hu : ∀ xs, u ≠ .tup xs) (o : HO) : Tups H (L2.upd H l o) := fun b xs e => by
  rw [upd_ne (ne_of e h fun z => hu xs z.symm)]
  exact e
theorem TrAt.tups {H H' : Hp} (s : Tups H H') : ∀ {t : Tr Str} {a : Addr}, TrAt H t a → TrAt H' t a
  | .num n, a, h => s _ _ h
  | .name x, a, h => s _ _ h
  | .piece k, a, h => s _ _ h
  | .turn t, a, h => by
    obtain ⟨b, h1, h2⟩ := h
    exact ⟨b, s _ _ h1, TrAt.tups s h2⟩
  | .bin _ t u, a, h => by
    obtain ⟨b, c, h1, h2, h3⟩ := h
    exact ⟨b, c, s _ _ h1, TrAt.tups s h2, TrAt.tups s h3⟩
theorem PtAt.tups {H H' : Hp} (s : Tups H H') : ∀ {t : Pt Str} {a : Addr}, PtAt H t a → PtAt H' t a
  | .hole n, a, h => s _ _ h
  | .any, a, h => s _ _ h
  | .from_ _ _, a, h => s _ _ h
  | .turn t, a, h => by
    obtain ⟨b, h1, h2⟩ := h
    exact ⟨b, s _ _ h1, PtAt.tups s h2⟩
  | .bin _ t u, a, h => by
    obtain ⟨b, c, h1, h2, h3⟩ := h
    exact ⟨b, c, s _ _ h1, PtAt.tups s h2, PtAt.tups s h3⟩
theorem TrAt.same {H H' : Hp} (s : Same H H') {t : Tr Str} {a : Addr} (h : TrAt H t a) : TrAt H' t a := h.tups (Same.tups s)
theorem PtAt.same {H H' : Hp} (s : Same H H') {t : Pt Str} {a : Addr} (h : PtAt H t a) : PtAt H' t a := h.tups (Same.tups s)
def dep : Tr Str → Nat
  | .turn t => dep t + 1
  | .bin _ t u => Nat.max (dep t) (dep u) + 1
  | _ => 1
def pdep : Pt Str → Nat
  | .turn t => pdep t + 1
  | .bin _ t u => Nat.max (pdep t) (pdep u) + 1
  | _ => 1
/-- all pieces below n -/
def pcs (n : Nat) : Tr Str → Prop
  | .piece k => k < n
  | .turn t => pcs n t
  | .bin _ t u => pcs n t ∧ pcs n u
  | _ => True
theorem pcs_under {n : Nat} : ∀ (t : Tr Str), pcs n t → ∀ u ∈ M50.under t, pcs n u
  | .num _, h, u, hu => by
    rw [M50.under, List.mem_singleton] at hu; subst hu; exact h
  | .name _, h, u, hu => by
    rw [M50.under, List.mem_singleton] at hu; subst hu; exact h
  | .piece _, h, u, hu => by
    rw [M50.under, List.mem_singleton] at hu; subst hu; exact h
  | .turn t, h, u, hu => by
    rcases List.mem_cons.mp hu with e | hu
    · subst e; exact h
    · exact pcs_under t h u hu
  | .bin _ t v, h, u, hu => by
    rcases List.mem_cons.mp hu with e | hu
    · subst e; exact h
    · rcases List.mem_append.mp hu with hu | hu
      · exact pcs_under t h.1 u hu
      · exact pcs_under v h.2 u hu
theorem dep_under : ∀ (t : Tr Str), ∀ u ∈ M50.under t, dep u ≤ dep t
  | .num _, u, hu => by
    rw [M50.under, List.mem_singleton] at hu; subst hu; exact Nat.le_refl _
  | .name _, u, hu => by
    rw [M50.under, List.mem_singleton] at hu; subst hu; exact Nat.le_refl _
  | .piece _, u, hu => by
    rw [M50.under, List.mem_singleton] at hu; subst hu; exact Nat.le_refl _
  | .turn t, u, hu => by
    rcases List.mem_cons.mp hu with e | hu
    · subst e; exact Nat.le_refl _
    · exact Nat.le_succ_of_le (dep_under t u hu)
  | .bin _ t v, u, hu => by
    rcases List.mem_cons.mp hu with e | hu
    · subst e; exact Nat.le_refl _
    · rcases List.mem_append.mp hu with hu | hu
      · exact Nat.le_succ_of_le (Nat.le_trans (dep_under t u hu) (Nat.le_max_left _ _))
      · exact Nat.le_succ_of_le (Nat.le_trans (dep_under v u hu) (Nat.le_max_right _ _))
theorem dep_pos (t : Tr Str) : 1 ≤ dep t := by cases t <;> (unfold dep; omega)
theorem pdep_pos (t : Pt Str) : 1 ≤ pdep t := by cases t <;> (unfold pdep; omega)
theorem under_len : ∀ (t : Tr Str) (n : Nat), dep t ≤ n → (M50.under t).length + 1 ≤ 2 ^ n
  | .num _, n, h => by
    have : 2 ^ 1 ≤ 2 ^ n := Nat.pow_le_pow_right (by omega) h
    rw [M50.under, List.length_singleton]; omega
  | .name _, n, h => by
    have : 2 ^ 1 ≤ 2 ^ n := Nat.pow_le_pow_right (by omega) h
    rw [M50.under, List.length_singleton]; omega
  | .piece _, n, h => by
    have : 2 ^ 1 ≤ 2 ^ n := Nat.pow_le_pow_right (by omega) h
    rw [M50.under, List.length_singleton]; omega
  | .turn t, 0, h => by unfold dep at h; omega
  | .turn t, n + 1, h => by
    unfold dep at h
    have := under_len t n (by omega)
    have := dep_pos t
    have : 2 ^ 1 ≤ 2 ^ n := Nat.pow_le_pow_right (by omega) (by omega)
    rw [M50.under, List.length_cons, Nat.pow_succ]; omega
  | .bin _ t v, 0, h => by unfold dep at h; omega
  | .bin _ t v, n + 1, h => by
    unfold dep at h
    have h1 : dep t ≤ Nat.max (dep t) (dep v) := Nat.le_max_left _ _
    have h2 : dep v ≤ Nat.max (dep t) (dep v) := Nat.le_max_right _ _
    have := under_len t n (by omega)
    have := under_len v n (by omega)
    rw [M50.under, List.length_cons, List.length_append, Nat.pow_succ]; omega
theorem laid_len : ∀ (p : Pt Str) (n : Nat), pdep p ≤ n → ∀ (t : Tr Str) (hs : List (Str × Tr Str)), M50.laid p t = some hs → hs.length ≤ 2 ^ n := by
  intro p
  induction p with
  | hole c =>
    intro n h t hs e
    simp only [M50.laid, Option.some.injEq] at e
    subst e
    have : 2 ^ 1 ≤ 2 ^ n := Nat.pow_le_pow_right (by omega) h
    rw [List.length_singleton]; omega
  | any =>
    intro n h t hs e
    cases t <;> simp only [M50.laid] at e <;> cases e
    exact Nat.zero_le _
  | from_ lo hi =>
    intro n h t hs e
    cases t <;> simp only [M50.laid] at e <;> first | (cases e; done) | skip
    split at e
    · cases e
      exact Nat.zero_le _
    · cases e
  | turn p ih =>
    intro n h t hs e
    cases t <;> simp only [M50.laid] at e <;> first | (cases e; done) | skip
    unfold pdep at h
    exact ih n (by omega) _ hs e
  | bin s p q ihp ihq =>
    intro n h t hs e
    cases t <;> simp only [M50.laid] at e <;> first | (cases e; done) | skip
    split at e
    · split at e
      · cases e
      · split at e
        · cases e
        · rename_i a ea _ b eb
          cases e
          unfold pdep at h
          have h1 : pdep p ≤ Nat.max (pdep p) (pdep q) := Nat.le_max_left _ _
          have h2 : pdep q ≤ Nat.max (pdep p) (pdep q) := Nat.le_max_right _ _
          have q1 := ihp (n - 1) (by omega) _ _ ea
          have q2 := ihq (n - 1) (by omega) _ _ eb
          have : 2 ^ n = 2 ^ (n - 1) * 2 := by rw [← Nat.pow_succ]; congr 1; omega
          rw [List.length_append]; omega
    · cases e

/-! ### a tree as a key -/
def key : Tr Str → NestedKey
  | .num n => .tup [.text "num", .num n]
  | .name x => .tup [.text "name", .text x]
  | .piece k => .tup [.text "piece", .num (k : Nat)]
  | .turn a => .tup [.text "turn", key a]
  | .bin s a b => .tup [.text (sgS s), key a, key b]
theorem sgS_inj {s t : Sg} (h : sgS s = sgS t) : s = t := by
  cases s <;> cases t <;> first | rfl | (exact absurd h (by decide +kernel))
theorem key_inj : ∀ {t u : Tr Str}, key t = key u → t = u
  | .num n, u, h => by
    cases u <;> simp only [key, NestedKey.tup.injEq, List.cons.injEq, NestedKey.text.injEq, NestedKey.num.injEq, and_true, List.nil_eq, reduceCtorEq, and_false] at h
    · rw [h.2]
    · exact absurd h.1 (by decide +kernel)
    · exact absurd h.1 (by decide +kernel)
  | .name n, u, h => by
    cases u <;> simp only [key, NestedKey.tup.injEq, List.cons.injEq, NestedKey.text.injEq, NestedKey.num.injEq, and_true, List.nil_eq, reduceCtorEq, and_false] at h
    · rw [h.2]
    · exact absurd h.1 (by decide +kernel)
  | .piece n, u, h => by
    cases u <;> simp only [key, NestedKey.tup.injEq, List.cons.injEq, NestedKey.text.injEq, NestedKey.num.injEq, and_true, List.nil_eq, reduceCtorEq, and_false] at h
    · exact absurd h.1 (by decide +kernel)
    · rw [Int.ofNat_inj.mp h.2]
    · exact absurd h.1 (by decide +kernel)
  | .turn a, u, h => by
    cases u with
    | turn b =>
      simp only [key, NestedKey.tup.injEq, List.cons.injEq, and_true, true_and] at h
      rw [key_inj h]
    | num n => cases (show key (.turn a) = key (.num n) from h); 
    | name n => cases n; cases h
    | piece n => cases h
    | bin s b c => simp only [key, NestedKey.tup.injEq, List.cons.injEq, List.nil_eq, reduceCtorEq, and_false] at h
  | .bin s a b, u, h => by
    cases u with
    | bin s' c d =>
      simp only [key, NestedKey.tup.injEq, List.cons.injEq, NestedKey.text.injEq, and_true] at h
      rw [sgS_inj h.1, key_inj h.2.1, key_inj h.2.2]
    | num n => simp only [key, NestedKey.tup.injEq, List.cons.injEq, List.nil_eq, reduceCtorEq, and_false] at h
    | name n => simp only [key, NestedKey.tup.injEq, List.cons.injEq, List.nil_eq, reduceCtorEq, and_false] at h
    | piece n => simp only [key, NestedKey.tup.injEq, List.cons.injEq, List.nil_eq, reduceCtorEq, and_false] at h
    | turn c => simp only [key, NestedKey.tup.injEq, List.cons.injEq, List.nil_eq, reduceCtorEq, and_false] at h
theorem key_depth : ∀ (t : Tr Str), (key t).depth ≤ dep t
  | .num n => by simp only [key, NestedKey.depth, NestedKey.depthAll, dep]; decide
  | .name x => by simp only [key, NestedKey.depth, NestedKey.depthAll, dep]; decide
  | .piece k => by simp only [key, NestedKey.depth, NestedKey.depthAll, dep]; decide
  | .turn a => by
    have := key_depth a
    simp only [key, NestedKey.depth, NestedKey.depthAll, dep]
    omega
  | .bin s a b => by
    have h1 := key_depth a
    have h2 := key_depth b
    have q1 : dep a ≤ Nat.max (dep a) (dep b) := Nat.le_max_left _ _
    have q2 : dep b ≤ Nat.max (dep a) (dep b) := Nat.le_max_right _ _
    simp only [key, NestedKey.depth, NestedKey.depthAll, dep]
    omega
theorem key_at {H : Hp} : ∀ {t : Tr Str} {a : Addr}, TrAt H t a → NkAt H (key t) (.ref a)
  | .num n, a, h => ⟨a, _, rfl, h, _, _, rfl, rfl, _, _, rfl, rfl, rfl⟩
  | .name x, a, h => ⟨a, _, rfl, h, _, _, rfl, rfl, _, _, rfl, rfl, rfl⟩
  | .piece k, a, h => ⟨a, _, rfl, h, _, _, rfl, rfl, _, _, rfl, rfl, rfl⟩
  | .turn t, a, h => by
    obtain ⟨b, h1, h2⟩ := h
    exact ⟨a, _, rfl, h1, _, _, rfl, rfl, _, _, rfl, key_at h2, rfl⟩
  | .bin s t u, a, h => by
    obtain ⟨b, c, h1, h2, h3⟩ := h
    exact ⟨a, _, rfl, h1, _, _, rfl, rfl, _, _, rfl, key_at h2, _, _, rfl, key_at h3, rfl⟩

/-! ### labels -/
def lk (l : Lab Str) : List (Key × V) := l.map fun p => (Sum.inr p.1, V.int p.2)
abbrev LbAt (H : Hp) (a : Addr) (l : Lab Str) : Prop := H a = some (.dK (lk l))
theorem lk_val (c : Str) : ∀ (l : Lab Str), valV (lk l) (Sum.inr c) = (M50.look l c).map V.int
  | [] => rfl
  | p :: r => by
    show valV ((Sum.inr p.1, V.int p.2) :: lk r) (Sum.inr c) = _
    by_cases e : p.1 = c
    · rw [valV_pos (p := (Sum.inr p.1, V.int p.2)) (show (Sum.inr p.1 : Key) = Sum.inr c by rw [e]), M50.look_pos e]; rfl
    · rw [valV_neg (p := (Sum.inr p.1, V.int p.2)) (fun z => e (Sum.inr.inj z)), M50.look_neg e]
      exact lk_val c r
theorem lk_put (l : Lab Str) (c : Str) (v : Int) : putK (lk l) (Sum.inr c) (V.int v) = lk (M50.put l c v) := by
  unfold putK M50.put
  have e : ((lk l).any fun kv => decide (kv.1 = (Sum.inr c : Key))) = (l.any fun kv => decide (kv.1 = c)) := by
    rw [valV_any, lk_val, M50.look_any, Option.isSome_map]
  rw [e]
  split
  · unfold lk
    rw [List.map_map, List.map_map]
    refine List.map_congr_left fun x _ => ?_
    by_cases h : x.1 = c
    · simp [h]
    · simp [h]
  · unfold lk
    rw [List.map_append]
    rfl
theorem lk_len (l : Lab Str) : (lk l).length = l.length := List.length_map _
theorem lk_get {H : Hp} {a : Addr} {l : Lab Str} (h : LbAt H a l) (c : Str) : DGet H a (.str c) ((M50.look l c).map V.int) := by
  rw [← lk_val]
  exact DGet.k (k := Sum.inr c) h
theorem lk_putH {H : Hp} {a : Addr} {l : Lab Str} (h : LbAt H a l) (c : Str) (v : Int) (z : l.length < sizeLine) : DPut H a (.str c) (.int v) (upd H a (.dK (lk (M50.put l c v)))) := by
  rw [← lk_put]
  exact DPut.k (k := Sum.inr c) h (by rw [lk_len]; exact z)
/-- the length and what lacks, together -/
def span (T : Tb Str) (l : Lab Str) : Nat := l.length + M50.lacks T l
theorem span_put {T : Tb Str} {l : Lab Str} {c : Str} (v : Int) (hc : c ∈ T.tiles.map (·.cls)) : span T (M50.put l c v) ≤ span T l := by
  unfold span
  cases e : M50.look l c with
  | none =>
    have h1 := M50.length_put l c v
    have h2 : M50.lacks T (M50.put l c v) < M50.lacks T l := M50.filter_lt (fun x hx => by
      rw [M50.look_put] at hx
      split at hx
      · cases hx
      · exact hx) hc (by rw [M50.look_put, if_pos rfl]; rfl) (by rw [e]; rfl)
    omega
  | some x =>
    have h1 : (M50.put l c v).length = l.length := by
      unfold M50.put
      rw [M50.look_any, e, if_pos (by rfl), List.length_map]
    have h2 : M50.lacks T (M50.put l c v) = M50.lacks T l := by
      unfold M50.lacks
      congr 2
      funext x
      rw [M50.look_put]
      split
      · rename_i q
        rw [q, e]
        rfl
      · rfl
    omega
theorem span_lessen {T : Tb Str} {l : Lab Str} {c : Str} (v : Int) (hc : c ∈ T.tiles.map (·.cls)) : span T (M50.lessen l c v).1 ≤ span T l := by
  unfold M50.lessen
  split
  · split
    · exact Nat.le_refl _
    · exact span_put v hc
  · exact span_put v hc
theorem lacks_le (T : Tb Str) (l : Lab Str) : M50.lacks T l ≤ T.tiles.length := by
  unfold M50.lacks
  refine Nat.le_trans (List.length_filter_le _ _) ?_
  rw [List.length_map]
  exact Nat.le_refl _

/-! ### tables, webs, what stands -/
def TlAt (H : Hp) (q : Addr) (tl : Tile Str) : Prop := ∃ pp, H q = some (.tup [.str tl.nm, .str tl.cls, .ref pp, .int tl.fee]) ∧ PtAt H tl.pat pp
theorem TlAt.same {H H' : Hp} (s : Same H H') {q : Addr} {tl : Tile Str} (h : TlAt H q tl) : TlAt H' q tl := by
  obtain ⟨pp, h1, h2⟩ := h
  exact ⟨pp, s _ _ h1, h2.same s⟩
def TbAt (H : Hp) (a : Addr) (T : Tb Str) : Prop := ∃ c t qs, H a = some (.tup [.ref c, .ref t]) ∧ TuF H c (T.classes.map V.str) ∧ H t = some (.tup (qs.map V.ref)) ∧ Paired (TlAt H) qs T.tiles
theorem TbAt.same {H H' : Hp} (s : Same H H') {a : Addr} {T : Tb Str} (h : TbAt H a T) : TbAt H' a T := by
  obtain ⟨c, t, qs, h1, h2, h3, h4⟩ := h
  exact ⟨c, t, qs, s _ _ h1, h2.same s, s _ _ h3, Paired.mapP h4 fun _ _ z => z.same s⟩
structure TOk (T : Tb Str) : Prop where
  ok : M50.Ok T
  many : T.tiles.length ≤ 100
  few : T.classes.length ≤ 100
  some : T.classes ≠ []
  deep : ∀ tl ∈ T.tiles, pdep tl.pat ≤ 3
def WbAt (H : Hp) (a : Addr) (ws : List (Tr Str)) : Prop := ∃ qs, H a = some (.tup (qs.map V.ref)) ∧ Paired (fun q t => TrAt H t q) qs ws
theorem WbAt.same {H H' : Hp} (s : Same H H') {a : Addr} {ws : List (Tr Str)} (h : WbAt H a ws) : WbAt H' a ws := by
  obtain ⟨qs, h1, h2⟩ := h
  exact ⟨qs, s _ _ h1, Paired.mapP h2 fun _ _ z => z.same s⟩
structure WOk (ws : List (Tr Str)) : Prop where
  many : ws.length ≤ 100
  deep : ∀ t ∈ ws, dep t ≤ 3
  pcs : ∀ i t, ws[i]? = some t → K50.pcs i t
def StAt (H : Hp) (a : Addr) (st : List (Lab Str)) : Prop := ∃ qs, H a = some (.lst (qs.map V.ref)) ∧ Paired (LbAt H) qs st
theorem StAt.same {H H' : Hp} (s : Same H H') {a : Addr} {st : List (Lab Str)} (h : StAt H a st) : StAt H' a st := by
  obtain ⟨qs, h1, h2⟩ := h
  exact ⟨qs, s _ _ h1, Paired.mapP h2 fun _ _ z => s _ _ z⟩

/-! ### what is known -/
def rws (rows : List (Tr Str × Addr)) : List (NestedKey × V) := rows.map fun p => (key p.1, V.ref p.2)
theorem rws_val (t : Tr Str) : ∀ (rows : List (Tr Str × Addr)), valV (rws rows) (key t) = (M50.look rows t).map V.ref
  | [] => rfl
  | p :: r => by
    show valV ((key p.1, V.ref p.2) :: rws r) (key t) = _
    by_cases e : p.1 = t
    · rw [valV_pos (p := (key p.1, V.ref p.2)) (show key p.1 = key t by rw [e]), M50.look_pos e]; rfl
    · rw [valV_neg (p := (key p.1, V.ref p.2)) (fun z => e (key_inj z)), M50.look_neg e]
      exact rws_val t r
abbrev KnRows (H : Hp) : List (Tr Str × Addr) → M50.Kn Str → Prop := Paired fun r p => r.1 = p.1 ∧ LbAt H r.2 p.2
theorem KnRows.look {H : Hp} {rows : List (Tr Str × Addr)} {kn : M50.Kn Str} (h : KnRows H rows kn) (t : Tr Str) :
    (M50.look rows t = none ∧ M50.look kn t = none) ∨ ∃ q l, M50.look rows t = some q ∧ M50.look kn t = some l ∧ LbAt H q l := by
  induction h with
  | nil => exact .inl ⟨rfl, rfl⟩
  | @cons p r ps rs h t' ih =>
    obtain ⟨h1, h2⟩ := h
    by_cases e : p.1 = t
    · exact .inr ⟨p.2, r.2, M50.look_pos e, M50.look_pos (h1.symm.trans e), h2⟩
    · rw [M50.look_neg e, M50.look_neg (fun z => e (h1.trans z))]
      exact ih
def KnAt (P : Program) (w : World) (H : Hp) (a : Addr) (kn : M50.Kn Str) : Prop := ∃ rows, ND P w H a (rws rows) ∧ KnRows H rows kn
theorem KnAt.same {P : Program} {w : World} {H H' : Hp} {a : Addr} {kn : M50.Kn Str} (h : KnAt P w H a kn) (s : Same H H') : KnAt P w H' a kn := by
  obtain ⟨rows, h1, h2⟩ := h
  exact ⟨rows, h1.same s, Paired.mapP h2 fun _ _ z => ⟨z.1, s _ _ z.2⟩⟩
end K50

/-! parts_of, laid, lessen, cost_of, under. -/
namespace K50
open PySem PySem.Spec PyProof.Rows L2
open M50 (Tr Pt Tb Tile Sg Lab)

/-! ### heads of trees -/
def sgn : Tr Str → Str
  | .num _ => "num"
  | .name _ => "name"
  | .piece _ => "piece"
  | .turn _ => "turn"
  | .bin s _ _ => sgS s
def kids : Tr Str → List (Tr Str)
  | .turn a => [a]
  | .bin _ a b => [a, b]
  | _ => []
def isNode : Tr Str → Bool
  | .turn _ => true
  | .bin _ _ _ => true
  | _ => false
theorem tr_head {H : Hp} {t : Tr Str} {a : Addr} (h : TrAt H t a) : ∃ x xs, H a = some (.tup (V.str (sgn t) :: x :: xs)) ∧ xs.length ≤ 1 ∧
    (isNode t = true → ∃ bs : List Addr, x :: xs = bs.map V.ref ∧ Paired (fun b u => TrAt H u b) bs (kids t)) := by
  cases t with
  | num n => exact ⟨_, _, h, by decide, fun z => nomatch z⟩
  | name n => exact ⟨_, _, h, by decide, fun z => nomatch z⟩
  | piece n => exact ⟨_, _, h, by decide, fun z => nomatch z⟩
  | turn t =>
    obtain ⟨b, h1, h2⟩ := h
    exact ⟨_, _, h1, by decide, fun _ => ⟨[b], rfl, .cons h2 .nil⟩⟩
  | bin s t u =>
    obtain ⟨b, c, h1, h2, h3⟩ := h
    exact ⟨_, _, h1, by show 1 ≤ 1; omega, fun _ => ⟨[b, c], rfl, .cons h2 (.cons h3 .nil)⟩⟩
theorem sIx1 (x : V) (xs : List V) (d : Nat) : HT.sIx (x :: xs).length d (some 1) = 1 := by
  have e : HT.sIx (x :: xs).length d (some ((1 : Nat) : Int)) = min 1 (x :: xs).length := HT.sIx_nat _ _ 1
  rw [List.length_cons] at e ⊢
  refine e.trans ?_
  omega
theorem cut1 (x : V) (xs : List V) : cutV (x :: xs) (some 1) none = xs := by
  unfold cutV
  rw [sIx1]
  show ((x :: xs).drop 1).take ((x :: xs).length - 1) = xs
  rw [List.drop_succ_cons, List.drop_zero, List.length_cons, Nat.add_sub_cancel, List.take_length]
theorem not_whole1 (x : V) (xs : List V) : ¬ (HT.sIx (x :: xs).length 0 (some 1) = 0 ∧ HT.sIx (x :: xs).length (x :: xs).length none = (x :: xs).length) := by
  intro h
  rw [sIx1] at h
  exact absurd h.1 (by decide)
theorem at0 {a : V} {r : List V} : atI (a :: r) 0 = some a := atI_nat (j := 0) rfl
theorem at1 {a b : V} {r : List V} : atI (a :: b :: r) 1 = some b := atI_nat (j := 1) rfl
theorem at2 {a b c : V} {r : List V} : atI (a :: b :: c :: r) 2 = some c := atI_nat (j := 2) rfl

theorem ifY {A B : Prop} {b : Bool} (e : b = true) (h : A) : if b = true then A else B := by rw [if_pos e]; exact h
theorem ifN {A B : Prop} {b : Bool} (e : b = false) (h : B) : if b = true then A else B := by rw [e]; exact iteF h
theorem upd_self {H : Hp} {a : Addr} {o : HO} (h : H a = some o) : upd H a o = H := by
  funext b
  by_cases e : b = a
  · subst e; rw [upd_same]; exact h.symm
  · exact upd_ne e

section
variable {P : Program} {w : World} {K : PySem.W.Frag} {mg : Str → Option Value} {base : Heap}

/-! ### parts_of -/
def spParts : Sp := fun vs H Q _ => ∃ (a : Addr) (t : Tr Str), vs = [.ref a] ∧ TrAt H t a ∧ ∀ (p : Addr) (bs : List Addr) (H' : Hp), Same H H' → H p = none → H' p = some (.lst (bs.map V.ref)) → Paired (fun b u => TrAt H' u b) bs (kids t) → Q (.ref p) H'
theorem scParts : FnScope ["tree"] ["tree"] (defScope sParts) := ⟨rfl, rfl, rfl, by decide +kernel, rfl, by decide +kernel, by decide +kernel⟩
theorem ok_parts {f : Addr} {fd : FuncData} (F : Fun K "parts_of" "parts_of" sParts f fd) (T : Txt K w mg) : FnOk P w K mg base CX0 1 f fd ["tree"] spParts := by
  refine F.ok scParts (fun vs H Q E h => ?_) (fun cdv A outer s H vs Q E hr h => ?_)
  · obtain ⟨a, t, rfl, _⟩ := h
    rfl
  obtain ⟨a, t, rfl, ht, k⟩ := h
  obtain ⟨d, es, n, v1, v2, v3, v4, mS, D, s1, s2, s3, s4, n1, n2, n3⟩ := T.signs
  obtain ⟨x, xs, hd, _, hn⟩ := tr_head ht
  refine ⟨_, pss_cons (ps_if (pt_cmpR (op_in_kd D) (pe_ix ix_tup (pv 0) pe_int (fun _ _ => rfl)) (pe_glob (v := .ref d) rfl mS rfl) (by rfl))
      (pss_one (ps_ret (pe_callTy call_list_of (by rfl) T.list (by decide +kernel) (pa_cons (pe_slice sl_tupA (pv 0) (po_some pe_int) po_none) pa_nil)))) pss_nil)
    (pss_one (ps_ret (pe_lst pa_nil))), ?_⟩
  refine ⟨_, rfl, a, _, 0, .str (sgn t), rfl, rfl, SqT.of hd, at0, ?_⟩
  have look : ∃ r, PySem.W.nsIn K d (sgn t) = some r ∧ r.isSome = isNode t ∧ (isNode t = false → kids t = []) := by
    cases t with
    | num n => exact ⟨_, n1, rfl, fun _ => rfl⟩
    | name n => exact ⟨_, n2, rfl, fun _ => rfl⟩
    | piece n => exact ⟨_, n3, rfl, fun _ => rfl⟩
    | turn t => exact ⟨_, s1, rfl, fun z => nomatch z⟩
    | bin s t u =>
      cases s with
      | sum => exact ⟨_, s2, rfl, fun z => nomatch z⟩
      | less => exact ⟨_, s3, rfl, fun z => nomatch z⟩
      | mul => exact ⟨_, s4, rfl, fun z => nomatch z⟩
  obtain ⟨r, e, z, hl⟩ := look
  refine ⟨sgn t, r, rfl, rfl, e, r.isSome, rfl, ?_⟩
  rw [z]
  cases hk : isNode t with
  | true =>
    refine iteT ?_
    obtain ⟨bs, eb, pb⟩ := hn hk
    refine ⟨_, rfl, 1, rfl, a, _, rfl, SqT.of hd, fun q => absurd q (not_whole1 _ _), fun _ p hp => ?_⟩
    rw [cut1]
    refine ⟨p, _, rfl, .inr (SqT.of upd_same), fun l hl => ?_⟩
    have s1 : Same H (upd (upd H p (.tup (x :: xs))) l (.lst (x :: xs))) := (Same.upd hp _).trans (Same.upd hl _)
    exact k l bs _ s1 ((Same.upd hp _).free hl) (by rw [upd_same, eb]) (Paired.mapP pb fun _ _ z => z.same s1)
  | false =>
    refine iteF ?_
    refine ⟨Nat.zero_le _, fun p hp => ?_⟩
    refine k p [] _ (Same.upd hp _) hp upd_same ?_
    rw [hl hk]
    exact .nil

/-! ### lessen -/
def spLessen : Sp := fun vs H Q _ => ∃ (a : Addr) (l : Lab Str) (c : Str) (p : Int), vs = [.ref a, .str c, .int p] ∧ LbAt H a l ∧ l.length < sizeLine ∧
  Q (.bl (M50.lessen l c p).2) (upd H a (.dK (lk (M50.lessen l c p).1)))
theorem scLessen : FnScope ["label", "cls", "price"] ["label", "cls", "price"] (defScope sLessen) := ⟨rfl, rfl, rfl, by decide +kernel, rfl, by decide +kernel, by decide +kernel⟩
theorem ok_lessen {f : Addr} {fd : FuncData} (F : Fun K "lessen" "lessen" sLessen f fd) : FnOk P w K mg base CX0 1 f fd ["label", "cls", "price"] spLessen := by
  refine F.ok scLessen (fun vs H Q E h => ?_) (fun cdv A outer s H vs Q E hr h => ?_)
  · obtain ⟨a, l, c, p, rfl, _⟩ := h
    rfl
  obtain ⟨a, l, c, p, rfl, hl, hz, k⟩ := h
  have hu := hu_of hr
  refine ⟨_, pss_cons (ps_if (PW.pt (pw_and (pt_cmp (pc_din hu (pv 1) (pv 0))) (pw_and1 (pt_cmpR op_le (pe_dget hu (pv 0) (pv 1) (fun _ _ => rfl)) (pv 2) (nomark _)))))
      (pss_one (ps_ret pe_bl)) pss_nil)
    (pss_cons (ps_dput hu (pv 0) (pv 1) (pv 2) rfl) (pss_one (ps_ret pe_bl))), ?_⟩
  refine ⟨_, rfl, _, rfl, a, _, rfl, lk_get hl c, _, rfl, ?_⟩
  unfold M50.lessen at k
  cases e : M50.look l c with
  | none =>
    rw [e] at k
    refine ifN rfl (iteF ?_)
    exact ⟨_, rfl, _, rfl, _, rfl, a, _, rfl, lk_putH hl c p hz, k⟩
  | some v =>
    rw [e] at k
    refine ifY rfl ?_
    refine ⟨_, rfl, _, rfl, a, .int v, rfl, (by have := lk_get hl c; rw [e] at this; exact this), _, rfl, _, _, rfl, rfl, _, rfl, ?_⟩
    by_cases hv : v ≤ p
    · refine ifY (decide_eq_true hv) ?_
      dsimp only at k
      rw [if_pos hv, upd_self hl] at k
      exact k
    · refine ifN (decide_eq_false hv) ?_
      dsimp only at k
      rw [if_neg hv] at k
      exact ⟨_, rfl, _, rfl, _, rfl, a, _, rfl, lk_putH hl c p hz, k⟩

/-! ### cost_of -/
def HlAt (H : Hp) (p : Addr) (hs : List (Str × Tr Str)) : Prop := ∃ qs : List Addr, H p = some (.lst (qs.map V.ref)) ∧ Paired (fun q (h : Str × Tr Str) => ∃ b, H q = some (.tup [.str h.1, .ref b]) ∧ TrAt H h.2 b) qs hs
theorem HlAt.same {H H' : Hp} {p : Addr} {hs : List (Str × Tr Str)} (h : HlAt H p hs) (s : Same H H') : HlAt H' p hs := by
  obtain ⟨qs, h1, h2⟩ := h
  exact ⟨qs, s _ _ h1, Paired.mapP h2 fun _ _ ⟨b, z1, z2⟩ => ⟨b, s _ _ z1, z2.same s⟩⟩
def optV : Option Int → V
  | none => .non
  | some v => .int v
def spCost (P : Program) (w : World) : Sp := fun vs H Q _ => ∃ (hp kp : Addr) (hs : List (Str × Tr Str)) (kn : M50.Kn Str) (p : Int), vs = [.ref hp, .int p, .ref kp] ∧ HlAt H hp hs ∧ KnAt P w H kp kn ∧
  (∀ h ∈ hs, (M50.look kn h.2).isSome = true ∧ dep h.2 ≤ 8) ∧ Q (optV (M50.costOf kn hs p)) H
theorem scCost : FnScope ["holes", "price", "known", "total", "cls", "tree"] ["holes", "price", "known"] (defScope sCost) := ⟨rfl, rfl, rfl, by decide +kernel, rfl, by decide +kernel, by decide +kernel⟩
theorem ok_cost {f : Addr} {fd : FuncData} (F : Fun K "cost_of" "cost_of" sCost f fd) : FnOk P w K mg base CX0 1 f fd ["holes", "price", "known"] (spCost P w) := by
  refine F.ok scCost (fun vs H Q E h => ?_) (fun cdv A outer s H vs Q E hr h => ?_)
  · obtain ⟨hp, kp, hs, kn, p, rfl, _⟩ := h
    rfl
  obtain ⟨hp, kp, hs, kn, p, rfl, hH, hK, hall, k⟩ := h
  have hu := hu_of hr
  have hv := hv_of hr
  refine ⟨_, pss_cons (ps_set (i := 3) scCost.nd rfl (Or.inl rfl) (pv 1))
    (pss_cons (ps_for PassesOwn.never rfl (pi_list (pv 0)) (pg_tup rfl (pgs_cons (pg_name (i := 4) scCost.nd rfl (Or.inl rfl)) (pgs_cons (pg_name (i := 5) scCost.nd rfl (Or.inl rfl)) pgs_nil)))
      (pss_cons (ps_if (pt_cmp (pc_dnotin hu (pv 4) (pe_nget hv (pv 2) (pv 5) (fun _ _ => rfl)))) (pss_one (ps_ret pe_non)) pss_nil)
        (pss_one (ps_set (i := 3) scCost.nd rfl (Or.inl rfl) (pe_op op_add (pv 3) (pe_dget hu (pe_nget hv (pv 2) (pv 5) (fun _ _ => rfl)) (pv 4) (fun _ _ => rfl)))))))
    (pss_one (ps_ret (pv 3)))), ?_⟩
  obtain ⟨qs, hq, hP⟩ := hH
  obtain ⟨rows, hN, hR⟩ := id hK
  refine ⟨_, rfl, _, rfl, hp, rfl, ⟨_, SqL.of hq⟩, for_list (K := K) (a := hp) (xs := qs.map V.ref) (fun i σ H' => ∃ (tot : Int) (v1 v2 : Option V), H' = H ∧ σ = [some (.ref hp), some (.int p), some (.ref kp), some (.int tot), v1, v2] ∧ M50.costOf kn (hs.drop i) tot = M50.costOf kn hs p)
    ⟨p, none, none, rfl, rfl, rfl⟩ (fun i σ H' _ ⟨_, _, _, e, _⟩ => by rw [e]; exact SqL.of hq) ?_ ?_⟩
  · rintro i x σ H' hx ⟨tot, v1, v2, rfl, rfl, hc⟩
    rw [List.getElem?_map] at hx
    obtain ⟨q, hqi, rfl⟩ := Option.map_eq_some_iff.mp hx
    obtain ⟨⟨c, t⟩, hi, b, hb1, hb2⟩ := Paired.at' hP hqi
    have hmem : (c, t) ∈ hs := List.mem_of_getElem? hi
    obtain ⟨hsome, hdep⟩ := hall _ hmem
    have hlt : i < hs.length := (List.getElem?_eq_some_iff.mp hi).1
    have hdr : hs.drop i = (c, t) :: hs.drop (i + 1) := by
      rw [List.drop_eq_getElem_cons hlt, (List.getElem?_eq_some_iff.mp hi).2]
    rw [hdr] at hc
    have hnk : NkAt H' (key t) (.ref b) := key_at hb2
    have hkd : (key t).depth ≤ 8 := Nat.le_trans (key_depth t) hdep
    obtain ⟨q2, l, hrow, hkn, hlb⟩ : ∃ q2 l, M50.look rows t = some q2 ∧ M50.look kn t = some l ∧ LbAt H' q2 l := by
      rcases hR.look t with ⟨_, z⟩ | z
      · rw [z] at hsome; cases hsome
      · exact z
    have hval : valV (rws rows) (key t) = some (.ref q2) := by rw [rws_val, hrow]; rfl
    refine ⟨q, _, rfl, SqT.of hb1, rfl, _, _, rfl, _, _, rfl, rfl, ?_⟩
    refine ⟨_, rfl, _, rfl, _, rfl, kp, b, _, _, _, rfl, rfl, hN, hnk, hkd, hval, q2, _, rfl, lk_get hlb c, _, rfl, ?_⟩
    rw [M50.costOf_cons, hkn, Option.getD_some] at hc
    cases e : M50.look l c with
    | none =>
      rw [e] at hc
      refine ifY rfl ?_
      rw [← hc] at k
      exact k
    | some v =>
      rw [e] at hc
      refine ifN rfl ?_
      refine ⟨_, rfl, _, rfl, _, rfl, kp, b, _, _, _, rfl, rfl, hN, hnk, hkd, hval, _, rfl, q2, .int v, rfl, (by have := lk_get hlb c; rw [e] at this; exact this), _, _, rfl, rfl, ?_⟩
      exact ⟨tot + v, _, _, rfl, rfl, hc⟩
  · rintro σ H' ⟨tot, v1, v2, rfl, rfl, hc⟩
    have hl : (qs.map V.ref).length = hs.length := by rw [List.length_map, Paired.length hP]
    rw [hl, List.drop_length] at hc
    have hc' : some tot = M50.costOf kn hs p := hc
    refine ⟨_, rfl, ?_⟩
    rw [← hc'] at k
    exact k

/-! ### under -/
theorem under_kids (t : Tr Str) : M50.under t = t :: (kids t).flatMap M50.under := by
  cases t <;> simp [M50.under, kids]
def spUnder (n : Nat) : Sp := fun vs H Q _ => ∃ (a : Addr) (t : Tr Str), vs = [.ref a] ∧ TrAt H t a ∧ dep t ≤ n ∧ n ≤ 10 ∧ ∀ (p : Addr) (bs : List Addr) (H' : Hp), Same H H' → H p = none → H' p = some (.lst (bs.map V.ref)) → Paired (fun b u => TrAt H' u b) bs (M50.under t) → Q (.ref p) H'
theorem scUnder : FnScope ["tree", "found", "part"] ["tree"] (defScope sUnder) := ⟨rfl, rfl, rfl, by decide +kernel, rfl, by decide +kernel, by decide +kernel⟩
theorem kids_dep {t u : Tr Str} {n : Nat} (h : dep t ≤ n + 1) (hu : u ∈ kids t) : dep u ≤ n := by
  cases t with
  | turn a =>
    rw [kids, List.mem_singleton] at hu
    subst hu
    unfold dep at h
    omega
  | bin s a b =>
    unfold dep at h
    have h1 : dep a ≤ Nat.max (dep a) (dep b) := Nat.le_max_left _ _
    have h2 : dep b ≤ Nat.max (dep a) (dep b) := Nat.le_max_right _ _
    rcases List.mem_cons.mp hu with e | hu
    · subst e; omega
    · rw [List.mem_singleton] at hu; subst hu; omega
  | num _ => cases hu
  | name _ => cases hu
  | piece _ => cases hu
theorem ok_under1 {n : Nat} {f g : Addr} {fd gd : FuncData} (F : Fun K "under" "under" sUnder f fd) (bF : Binds K fd ["tree"] []) (mF : mg "under" = some (.ref f))
    (G : FnOk P w K mg base CX0 1 g gd ["tree"] spParts) (bG : Binds K gd ["tree"] []) (kG : PySem.W.keepIn K (.ref g) = true) (mG : mg "parts_of" = some (.ref g))
    (R : FnOk P w K mg base CX0 (n + 1) f fd ["tree"] (spUnder n)) : FnOk P w K mg base CX0 (n + 2) f fd ["tree"] (spUnder (n + 1)) := by
  refine F.ok scUnder (fun vs H Q E h => ?_) (fun cdv A outer s H vs Q E hr h => ?_)
  · obtain ⟨a, t, rfl, _⟩ := h
    rfl
  obtain ⟨a, t, rfl, ht, hdep, hn, k⟩ := h
  have hr1 : Room 1 _ := hr.mono (Nat.le_add_left 1 n)
  refine ⟨_, pss_cons (ps_set (i := 1) scUnder.nd rfl (Or.inl rfl) (pe_lst (pa_cons (pv 0) pa_nil)))
    (pss_cons (ps_for PassesOwn.never rfl (pi_list (pe_call G hr1 rfl mG kG bG .nil pass0 (pa_cons (pv 0) pa_nil))) (pg_name (i := 2) scUnder.nd rfl (Or.inl rfl))
      (pss_one (ps_expr (pe_bm PySem.F.plainAttrs_list PySem.F.slot_list_extend PySem.F.type_list_extend mt_extend (pv 1) (pa_cons (pe_call R hr rfl mF F.kp bF .nil pass0 (pa_cons (pv 2) pa_nil)) pa_nil)))))
    (pss_one (ps_ret (pv 1)))), ?_⟩
  refine ⟨_, rfl, (by show 1 ≤ sizeLine; decide), fun l hl => ?_⟩
  have s0 : Same H (upd H l (.lst [.ref a])) := Same.upd hl _
  refine ⟨_, rfl, a, t, rfl, ht.same s0, fun pl bs H1 s1 npl hpl hbs => ?_⟩
  have nlp : pl ≠ l := fun z => by
    rw [z, upd_same] at npl
    cases npl
  have nl : ∀ b o, H b = some o → b ≠ l := fun b o e => ne_of_none e hl
  refine ⟨pl, rfl, ⟨_, SqL.of hpl⟩, for_list (K := K) (a := pl) (xs := bs.map V.ref) (fun i σ H' => ∃ (acc : List Addr) (v : Option V), σ = [some (.ref a), some (.ref l), v] ∧ Same H H' ∧ Tups H1 H' ∧ H' l = some (.lst ((a :: acc).map V.ref)) ∧ H' pl = some (.lst (bs.map V.ref)) ∧
      Paired (fun b u => TrAt H' u b) acc (((kids t).take i).flatMap M50.under))
    ⟨[], none, rfl, s0.trans s1, fun _ _ e => e, s1 _ _ upd_same, hpl, .nil⟩ (fun i σ H' _ ⟨_, _, _, _, _, _, e, _⟩ => SqL.of e) ?_ ?_⟩
  · rintro i x σ H' hx ⟨acc, v, rfl, hS, hT, hL, hPl, hP⟩
    rw [List.getElem?_map] at hx
    obtain ⟨b, hbi, rfl⟩ := Option.map_eq_some_iff.mp hx
    obtain ⟨u, hi, hb⟩ := Paired.at' hbs hbi
    have hlt : i < (kids t).length := (List.getElem?_eq_some_iff.mp hi).1
    have hmem : u ∈ kids t := List.mem_of_getElem? hi
    have hub : TrAt H' u b := hb.tups hT
    refine ⟨_, rfl, .inl ⟨rfl, _, SqL.of hL⟩, _, rfl, b, u, rfl, hub, kids_dep hdep hmem, by omega, fun p ds H2 s2 np hp2 hd2 => ?_⟩
    have hl2 : H2 l = some (.lst ((a :: acc).map V.ref)) := s2 _ _ hL
    have tk : (kids t).take (i + 1) = (kids t).take i ++ [u] := by
      rw [List.take_add_one, hi]
      rfl
    have t2 : Tups H2 (upd H2 l (.lst ((a :: acc).map V.ref ++ ds.map V.ref))) := Tups.upd hl2 (fun _ z => nomatch z) _
    have hall : Paired (fun b u => TrAt H2 u b) (acc ++ ds) (((kids t).take (i + 1)).flatMap M50.under) := by
      rw [tk, List.flatMap_append, List.flatMap_singleton]
      exact Paired.app (Paired.mapP hP fun _ _ z => z.same s2) hd2
    refine ⟨l, p, _, _, rfl, rfl, hl2, hp2, ?_, acc ++ ds, _, rfl, fun c o e => ?_, ?_, ?_, ?_, ?_⟩
    · have h1 := Paired.length hall
      have h2 : (((kids t).take (i + 1)).flatMap M50.under).length ≤ ((kids t).flatMap M50.under).length := by
        have : (kids t) = (kids t).take (i + 1) ++ (kids t).drop (i + 1) := (List.take_append_drop _ _).symm
        conv => rhs; rw [this]
        rw [List.flatMap_append, List.length_append]
        omega
      have h3 := under_len t (n + 1) hdep
      rw [under_kids, List.length_cons] at h3
      have h4 : 2 ^ (n + 1) ≤ 2 ^ 10 := Nat.pow_le_pow_right (by omega) (by omega)
      rw [List.length_append] at h1
      rw [List.length_map, List.length_map, List.length_cons]
      have h6 : (1024 : Nat) ≤ sizeLine := by decide
      omega
    · rw [upd_ne (nl c o e)]
      exact s2 _ _ (hS _ _ e)
    · exact fun c xs e => t2 _ _ (s2 _ _ (hT _ _ e))
    · rw [upd_same]
      simp
    · rw [upd_ne nlp]
      exact s2 _ _ hPl
    · exact Paired.mapP hall fun _ _ z => z.tups t2
  · rintro σ H' ⟨acc, v, rfl, hS, hT, hL, hPl, hP⟩
    refine ⟨_, rfl, k l (a :: acc) H' hS hl hL ?_⟩
    rw [List.length_map, Paired.length hbs, List.take_length] at hP
    rw [under_kids]
    exact .cons (ht.same hS) hP
theorem ok_under0 {f : Addr} {fd : FuncData} : FnOk P w K mg base CX0 1 f fd ["tree"] (spUnder 0) := by
  have no : ∀ vs H Q E, ¬ spUnder 0 vs H Q E := fun vs H Q E h => by
    obtain ⟨a, t, _, _, h1, _⟩ := h
    have := dep_pos t
    omega
  exact ⟨fun vs H Q E h => absurd h (no vs H Q E), fun A outer s H args us vs Q E _ _ _ _ h => absurd h (no vs H Q E)⟩
theorem ok_under {f g : Addr} {fd gd : FuncData} (F : Fun K "under" "under" sUnder f fd) (bF : Binds K fd ["tree"] []) (mF : mg "under" = some (.ref f))
    (G : FnOk P w K mg base CX0 1 g gd ["tree"] spParts) (bG : Binds K gd ["tree"] []) (kG : PySem.W.keepIn K (.ref g) = true) (mG : mg "parts_of" = some (.ref g)) : ∀ n : Nat, FnOk P w K mg base CX0 (n + 1) f fd ["tree"] (spUnder n)
  | 0 => ok_under0
  | n + 1 => ok_under1 F bF mF G bG kG mG (ok_under F bF mF G bG kG mG n)
end
end K50

/-! laid. -/
namespace K50
open PySem PySem.Spec PyProof.Rows L2
open M50 (Tr Pt Tb Tile Sg Lab)

def pkids : Pt Str → List (Pt Str)
  | .turn a => [a]
  | .bin _ a b => [a, b]
  | _ => []
def laidL : List (Pt Str) → List (Tr Str) → Option (List (Str × Tr Str))
  | [], _ => some []
  | _ :: _, [] => none
  | p :: ps, t :: ts => match M50.laid p t with
    | none => none
    | some a => match laidL ps ts with
      | none => none
      | some b => some (a ++ b)
/-- a pattern with a sign -/
def psg : Pt Str → Option Str
  | .turn _ => some "turn"
  | .bin s _ _ => some (sgS s)
  | _ => none
theorem sgS_ne (s : Sg) : sgS s ≠ "turn" ∧ sgS s ≠ "num" ∧ sgS s ≠ "name" ∧ sgS s ≠ "piece" ∧ sgS s ≠ "at" ∧ sgS s ≠ "any" ∧ sgS s ≠ "from" := by
  cases s <;> decide +kernel
theorem laidL_cons (p : Pt Str) (ps : List (Pt Str)) (t : Tr Str) (ts : List (Tr Str)) : laidL (p :: ps) (t :: ts) = match M50.laid p t with
    | none => none
    | some a => match laidL ps ts with
      | none => none
      | some b => some (a ++ b) := rfl
theorem laidL_one (p : Pt Str) (t : Tr Str) : laidL [p] [t] = M50.laid p t := by
  rw [laidL_cons]
  cases M50.laid p t with
  | none => rfl
  | some a => show some (a ++ []) = some a; rw [List.append_nil]
theorem laid_kids {p : Pt Str} {t : Tr Str} {x : Str} (h : psg p = some x) : (sgn t = x → M50.laid p t = laidL (pkids p) (kids t) ∧ (pkids p).length = (kids t).length ∧ isNode t = true) ∧ (sgn t ≠ x → M50.laid p t = none) := by
  cases p with
  | hole c => cases h
  | any => cases h
  | from_ a b => cases h
  | turn p =>
    cases h
    cases t with
    | turn t => exact ⟨fun _ => ⟨(laidL_one p t).symm, rfl, rfl⟩, fun z => absurd rfl z⟩
    | num n => exact ⟨fun z => absurd (show ("num" : Str) = "turn" from z) (by decide +kernel), fun _ => rfl⟩
    | name n => exact ⟨fun z => absurd (show ("name" : Str) = "turn" from z) (by decide +kernel), fun _ => rfl⟩
    | piece n => exact ⟨fun z => absurd (show ("piece" : Str) = "turn" from z) (by decide +kernel), fun _ => rfl⟩
    | bin s t u => exact ⟨fun z => absurd z (sgS_ne s).1, fun _ => rfl⟩
  | bin s p q =>
    cases h
    obtain ⟨g1, g2, g3, g4, _⟩ := sgS_ne s
    cases t with
    | turn t => exact ⟨fun z => absurd z.symm g1, fun _ => rfl⟩
    | num n => exact ⟨fun z => absurd z.symm g2, fun _ => rfl⟩
    | name n => exact ⟨fun z => absurd z.symm g3, fun _ => rfl⟩
    | piece n => exact ⟨fun z => absurd z.symm g4, fun _ => rfl⟩
    | bin s' t u =>
      refine ⟨fun z => ?_, fun z => ?_⟩
      · have e : s' = s := sgS_inj z
        subst e
        refine ⟨?_, rfl, rfl⟩
        show M50.laid (.bin s' p q) (.bin s' t u) = laidL [p, q] [t, u]
        rw [M50.laid, if_pos rfl, laidL_cons, laidL_one]
        cases M50.laid p t with
        | none => rfl
        | some a => cases M50.laid q u <;> rfl
      · rw [M50.laid, if_neg (fun e => z (by rw [e]; rfl))]
theorem pt_head {H : Hp} {p : Pt Str} {a : Addr} {x : Str} (h : PtAt H p a) (e : psg p = some x) : ∃ v vs bs, H a = some (.tup (V.str x :: v :: vs)) ∧ v :: vs = bs.map V.ref ∧ Paired (fun b u => PtAt H u b) bs (pkids p) := by
  cases p with
  | hole c => cases e
  | any => cases e
  | from_ a b => cases e
  | turn p =>
    cases e
    obtain ⟨b, h1, h2⟩ := h
    exact ⟨_, _, [b], h1, rfl, .cons h2 .nil⟩
  | bin s p q =>
    cases e
    obtain ⟨b, c, h1, h2, h3⟩ := h
    exact ⟨_, _, [b, c], h1, rfl, .cons h2 (.cons h3 .nil)⟩
theorem pkids_dep {p u : Pt Str} {n : Nat} (h : pdep p ≤ n + 1) (hu : u ∈ pkids p) : pdep u ≤ n := by
  cases p with
  | turn a =>
    rw [pkids, List.mem_singleton] at hu
    subst hu
    unfold pdep at h
    omega
  | bin s a b =>
    unfold pdep at h
    have h1 : pdep a ≤ Nat.max (pdep a) (pdep b) := Nat.le_max_left _ _
    have h2 : pdep b ≤ Nat.max (pdep a) (pdep b) := Nat.le_max_right _ _
    rcases List.mem_cons.mp hu with e | hu
    · subst e; omega
    · rw [List.mem_singleton] at hu; subst hu; omega
  | hole _ => cases hu
  | any => cases hu
  | from_ _ _ => cases hu
theorem psg_ne {p : Pt Str} {x : Str} (e : psg p = some x) : V.str x ≠ .str "at" ∧ V.str x ≠ .str "any" ∧ V.str x ≠ .str "from" := by
  cases p with
  | hole c => cases e
  | any => cases e
  | from_ a b => cases e
  | turn p => cases e; decide +kernel
  | bin s p q =>
    cases e
    obtain ⟨_, _, _, _, g5, g6, g7⟩ := sgS_ne s
    exact ⟨fun z => g5 (V.str.inj z), fun z => g6 (V.str.inj z), fun z => g7 (V.str.inj z)⟩
theorem decF {x y : V} (h : x ≠ y) : decide (x = y) = false := decide_eq_false h
theorem HlAt.tups {H H' : Hp} {p : Addr} {hs : List (Str × Tr Str)} (h : HlAt H p hs) (s : Tups H H') (e : H' p = H p) : HlAt H' p hs := by
  obtain ⟨qs, h1, h2⟩ := h
  exact ⟨qs, e.trans h1, Paired.mapP h2 fun _ _ ⟨b, z1, z2⟩ => ⟨b, s _ _ z1, z2.tups s⟩⟩

section
variable {P : Program} {w : World} {K : PySem.W.Frag} {mg : Str → Option Value} {base : Heap}
def spLaid (n : Nat) : Sp := fun vs H Q _ => ∃ (a b : Addr) (p : Pt Str) (t : Tr Str), vs = [.ref a, .ref b] ∧ PtAt H p a ∧ TrAt H t b ∧ pdep p ≤ n ∧ n ≤ 10 ∧
  (M50.laid p t = none → ∀ H', Same H H' → Q .non H') ∧ (∀ hs, M50.laid p t = some hs → ∀ (q : Addr) (H' : Hp), Same H H' → H q = none → HlAt H' q hs → Q (.ref q) H')
theorem scLaid : FnScope ["pattern", "tree", "found", "part", "other", "more"] ["pattern", "tree"] (defScope sLaid) := ⟨rfl, rfl, rfl, by decide +kernel, rfl, by decide +kernel, by decide +kernel⟩
theorem ok_laid1 {n : Nat} {f : Addr} {fd : FuncData} (F : Fun K "laid" "laid" sLaid f fd) (T : Txt K w mg) (bF : Binds K fd ["pattern", "tree"] []) (mF : mg "laid" = some (.ref f))
    (R : FnOk P w K mg base CX0 n f fd ["pattern", "tree"] (spLaid n)) : FnOk P w K mg base CX0 (n + 1) f fd ["pattern", "tree"] (spLaid (n + 1)) := by
  refine F.ok scLaid (fun vs H Q E h => ?_) (fun cdv A outer s H vs Q E hr h => ?_)
  · obtain ⟨a, b, p, t, rfl, _⟩ := h
    rfl
  obtain ⟨a, b, p, t, rfl, hp, ht, hdep, hn, k0, k1⟩ := h
  have nd := scLaid.nd
  refine ⟨_, pss_cons (ps_if (pt_cmpR op_eq (pe_ix ix_tup (pv 0) pe_int (fun _ _ => rfl)) pe_str (nomark _)) (pss_one (ps_ret (pe_lst (pa_cons (pe_tup (pa_cons (pe_ix ix_tup (pv 0) pe_int (fun _ _ => rfl)) (pa_cons (pv 1) pa_nil))) pa_nil)))) pss_nil)
    (pss_cons (ps_if (pt_cmpR op_eq (pe_ix ix_tup (pv 0) pe_int (fun _ _ => rfl)) pe_str (nomark _)) (pss_one (ps_ret (pe_ix ix_list (pe_lst (pa_cons (pe_lst pa_nil) (pa_cons pe_non pa_nil)))
        (pe_callTy call_int1 (by rfl) T.int (by decide +kernel) (pa_cons (pe_cmpR op_ne (pe_ix ix_tup (pv 1) pe_int (fun _ _ => rfl)) pe_str (nomark _)) pa_nil)) (fun _ _ => rfl)))) pss_nil)
    (pss_cons (ps_if (pt_cmpR op_eq (pe_ix ix_tup (pv 0) pe_int (fun _ _ => rfl)) pe_str (nomark _)) (pss_one (ps_ret (pe_ix ix_list (pe_lst (pa_cons (pe_lst pa_nil) (pa_cons pe_non pa_nil)))
        (pe_callTy call_int1 (by rfl) T.int (by decide +kernel) (pa_cons (pe_or (pe_cmpR op_ne (pe_ix ix_tup (pv 1) pe_int (fun _ _ => rfl)) pe_str (nomark _))
          (pe_one (pe_not (pe_chain op_le op_le (pe_ix ix_tup (pv 0) pe_int (fun _ _ => rfl)) (pe_ix ix_tup (pv 1) pe_int (fun _ _ => rfl)) (pe_ix ix_tup (pv 0) pe_int (fun _ _ => rfl)))))) pa_nil)) (fun _ _ => rfl)))) pss_nil)
    (pss_cons (ps_if (pt_cmpR op_ne (pe_ix ix_tup (pv 0) pe_int (fun _ _ => rfl)) (pe_ix ix_tup (pv 1) pe_int (fun _ _ => rfl)) (nomark _)) (pss_one (ps_ret pe_non)) pss_nil)
    (pss_cons (ps_set (i := 2) nd rfl (Or.inl rfl) (pe_lst pa_nil))
    (pss_cons (ps_for PassesOwn.never rfl (RZ.pi_zipA (by rfl) T.zip (pa_cons (pe_slice sl_tupA (pv 0) (po_some pe_int) po_none) (pa_cons (pe_slice sl_tupA (pv 1) (po_some pe_int) po_none) pa_nil)))
        (pg_tup rfl (pgs_cons (pg_name (i := 3) nd rfl (Or.inl rfl)) (pgs_cons (pg_name (i := 4) nd rfl (Or.inl rfl)) pgs_nil)))
      (pss_cons (ps_set (i := 5) nd rfl (Or.inl rfl) (pe_call R hr rfl mF F.kp bF .nil pass0 (pa_cons (pv 3) (pa_cons (pv 4) pa_nil))))
      (pss_cons (ps_if (pt_cmp (pc_isN (pv 5))) (pss_one (ps_ret pe_non)) pss_nil)
      (pss_one (ps_expr (pe_bm PySem.F.plainAttrs_list PySem.F.slot_list_extend PySem.F.type_list_extend mt_extend (pv 2) (pa_cons (pv 5) pa_nil)))))))
    (pss_one (ps_ret (pv 2)))))))), ?_⟩
  obtain ⟨tx, txs, htt, _, htn⟩ := tr_head ht
  cases e : psg p with
  | some x =>
    obtain ⟨v, vs, bs, hpp, ebs, hbs⟩ := pt_head hp e
    obtain ⟨e1, e2, e3⟩ := psg_ne e
    obtain ⟨lk1, lk2⟩ := laid_kids (t := t) e
    refine ⟨_, rfl, a, _, 0, _, rfl, rfl, SqT.of hpp, at0, rfl, _, rfl, ifN (decF e1) ?_⟩
    refine ⟨_, rfl, a, _, 0, _, rfl, rfl, SqT.of hpp, at0, rfl, _, rfl, ifN (decF e2) ?_⟩
    refine ⟨_, rfl, a, _, 0, _, rfl, rfl, SqT.of hpp, at0, rfl, _, rfl, ifN (decF e3) ?_⟩
    refine ⟨_, rfl, a, _, 0, _, rfl, rfl, SqT.of hpp, at0, _, rfl, b, _, 0, _, rfl, rfl, SqT.of htt, at0, rfl, _, rfl, ?_⟩
    by_cases hx : sgn t = x
    · obtain ⟨le, ll, hnode⟩ := lk1 hx
      obtain ⟨cs, ecs, hcs⟩ := htn hnode
      refine ifN (by rw [hx, decide_eq_true rfl]; rfl) ?_
      refine ⟨Nat.zero_le _, fun l hl => ?_⟩
      have s0 : Same H (upd H l (.lst [])) := Same.upd hl _
      refine ⟨_, rfl, 1, rfl, a, _, rfl, SqT.of (s0 _ _ hpp), fun q => absurd q (not_whole1 _ _), fun _ p1 hp1 => ?_⟩
      rw [cut1]
      have s1 : Same (upd H l (.lst [])) (upd (upd H l (.lst [])) p1 (.tup (v :: vs))) := Same.upd hp1 _
      refine ⟨_, rfl, 1, rfl, b, _, rfl, SqT.of (s1 _ _ (s0 _ _ htt)), fun q => absurd q (not_whole1 _ _), fun _ p2 hp2 => ?_⟩
      rw [cut1]
      generalize hH3 : upd (upd (upd H l (.lst [])) p1 (.tup (v :: vs))) p2 (.tup (tx :: txs)) = H3
      have s2 : Same (upd (upd H l (.lst [])) p1 (.tup (v :: vs))) H3 := by rw [← hH3]; exact Same.upd hp2 _
      have s3 : Same H H3 := s0.trans (s1.trans s2)
      have g1 : H3 p1 = some (.tup (bs.map V.ref)) := by rw [← ebs]; exact s2 _ _ upd_same
      have g2 : H3 p2 = some (.tup (cs.map V.ref)) := by rw [← ecs, ← hH3]; exact upd_same
      have g3 : H3 l = some (.lst []) := s2 _ _ (s1 _ _ upd_same)
      have hbl : bs.length = (pkids p).length := Paired.length hbs
      have hcl : cs.length = (kids t).length := Paired.length hcs
      have k2 : (kids t).length ≤ 2 := by cases t <;> simp [kids]
      refine ⟨p1, p2, _, _, rfl, .inr ⟨SqT.of g1, SqT.of g2, RZ.for_zipT (xs := bs.map V.ref) (ys := cs.map V.ref) (by rw [List.length_map, List.length_map]; omega)
        (fun i σ H' => ∃ (acc : List (Str × Tr Str)) (v3 v4 v5 : Option V), σ = [some (.ref a), some (.ref b), some (.ref l), v3, v4, v5] ∧ Same H H' ∧ Tups H3 H' ∧ HlAt H' l acc ∧ acc.length ≤ i * 1024 ∧
          M50.laid p t = (laidL ((pkids p).drop i) ((kids t).drop i)).map (acc ++ ·))
        ⟨[], none, none, none, rfl, s3, fun _ _ z => z, ⟨[], g3, .nil⟩, Nat.zero_le _, by
          rw [List.drop_zero, List.drop_zero, le]
          cases laidL (pkids p) (kids t) <;> rfl⟩ (fun i σ H' ⟨_, _, _, _, _, _, z, _⟩ => ⟨SqT.of (z _ _ g1), SqT.of (z _ _ g2)⟩) ?_ ?_⟩⟩
      · rintro i x1 y1 W σ H' hx1 hy1 ⟨acc, v3, v4, v5, rfl, hS, hT, hA, hal, hL⟩ hW
        rw [List.getElem?_map] at hx1 hy1
        obtain ⟨pb, hpi, rfl⟩ := Option.map_eq_some_iff.mp hx1
        obtain ⟨tb, hti, rfl⟩ := Option.map_eq_some_iff.mp hy1
        obtain ⟨p', hp'i, hp'⟩ := Paired.at' hbs hpi
        obtain ⟨t', ht'i, ht'⟩ := Paired.at' hcs hti
        have sW : Same H' (upd H' W (.tup [.ref pb, .ref tb])) := Same.upd hW _
        have hpl : i < (pkids p).length := (List.getElem?_eq_some_iff.mp hp'i).1
        have htl : i < (kids t).length := (List.getElem?_eq_some_iff.mp ht'i).1
        have d1 : (pkids p).drop i = p' :: (pkids p).drop (i + 1) := by
          rw [List.drop_eq_getElem_cons hpl, (List.getElem?_eq_some_iff.mp hp'i).2]
        have d2 : (kids t).drop i = t' :: (kids t).drop (i + 1) := by
          rw [List.drop_eq_getElem_cons htl, (List.getElem?_eq_some_iff.mp ht'i).2]
        rw [d1, d2, laidL_cons] at hL
        have dp : pdep p' ≤ n := pkids_dep hdep (List.mem_of_getElem? hp'i)
        refine ⟨W, _, rfl, SqT.of upd_same, rfl, _, _, rfl, _, _, rfl, rfl, ?_⟩
        refine ⟨_, rfl, _, rfl, pb, tb, p', t', rfl, hp'.same (hS.trans sW), ht'.same (hS.trans sW), dp, by omega, fun eN H2 s4 => ?_, fun hs eS q H2 s4 nq hq => ?_⟩
        · rw [eN] at hL
          refine ⟨_, rfl, _, rfl, ifY (by decide) ?_⟩
          exact k0 hL H2 (hS.trans (sW.trans s4))
        · rw [eS] at hL
          refine ⟨_, rfl, _, rfl, ifN (decF fun z => nomatch z) ?_⟩
          obtain ⟨qs1, a1, a2⟩ := hA
          obtain ⟨qs2, b1, b2⟩ := hq
          have hl2 : H2 l = some (.lst (qs1.map V.ref)) := s4 _ _ (sW _ _ a1)
          have hsl := laid_len p' n dp t' hs eS
          have hsl2 : 2 ^ n ≤ 2 ^ 10 := Nat.pow_le_pow_right (by omega) (by omega)
          have ql1 := Paired.length a2
          have ql2 := Paired.length b2
          have t5 : Tups H2 (upd H2 l (.lst (qs1.map V.ref ++ qs2.map V.ref))) := Tups.upd hl2 (fun _ z => nomatch z) _
          have t6 : Tups H' (upd H2 l (.lst (qs1.map V.ref ++ qs2.map V.ref))) := fun c ys z => t5 _ _ (s4 _ _ (sW _ _ z))
          refine ⟨_, rfl, .inl ⟨rfl, _, SqL.of hl2⟩, _, rfl, l, q, _, _, rfl, rfl, hl2, b1, ?_, ?_⟩
          · rw [List.length_map, List.length_map]
            have h6 : (4096 : Nat) ≤ sizeLine := by decide
            have : i * 1024 ≤ 1 * 1024 := Nat.mul_le_mul (by omega) (Nat.le_refl _)
            omega
          · refine ⟨acc ++ hs, _, _, _, rfl, fun c o z => ?_, fun c ys z => t6 _ _ (hT _ _ z), ⟨qs1 ++ qs2, ?_, ?_⟩, ?_, ?_⟩
            · rw [upd_ne (ne_of_none z hl)]
              exact s4 _ _ (sW _ _ (hS _ _ z))
            · rw [upd_same, List.map_append]
            · exact Paired.app (Paired.mapP a2 fun _ _ ⟨c, z1, z2⟩ => ⟨c, t6 _ _ z1, z2.tups t6⟩) (Paired.mapP b2 fun _ _ ⟨c, z1, z2⟩ => ⟨c, t5 _ _ z1, z2.tups t5⟩)
            · rw [List.length_append, Nat.succ_mul]
              omega
            · rw [hL]
              dsimp only
              cases laidL ((pkids p).drop (i + 1)) ((kids t).drop (i + 1)) with
              | none => rfl
              | some z => show some (acc ++ (hs ++ z)) = some (acc ++ hs ++ z); rw [List.append_assoc]
      · rintro σ H' ⟨acc, v3, v4, v5, rfl, hS, hT, hA, hal, hL⟩
        rw [List.length_map, hbl, List.drop_length, ll, List.drop_length] at hL
        refine ⟨_, rfl, k1 acc ?_ l H' hS hl hA⟩
        rw [hL]
        show some (acc ++ []) = some acc
        rw [List.append_nil]
    · refine ifY (by rw [decide_eq_false (fun z => hx (V.str.inj z).symm)]; rfl) ?_
      exact k0 (lk2 hx) H (Same.refl H)
  | none =>
    cases p with
    | hole c =>
      have hp' : H a = some (.tup [.str "at", .str c]) := hp
      refine ⟨_, rfl, a, _, 0, _, rfl, rfl, SqT.of hp', at0, rfl, _, rfl, ifY (by decide +kernel) ?_⟩
      refine ⟨_, rfl, a, _, 1, _, rfl, rfl, SqT.of hp', at1, _, rfl, (by show 2 ≤ sizeLine; decide), fun q1 hq1 => ⟨by show 1 ≤ sizeLine; decide, fun q2 hq2 => ?_⟩⟩
      have s1 : Same H (upd (upd H q1 (.tup [.str c, .ref b])) q2 (.lst [.ref q1])) := (Same.upd hq1 _).trans (Same.upd hq2 _)
      refine k1 [(c, t)] rfl q2 _ s1 ((Same.upd hq1 _).free hq2) ⟨[q1], upd_same, .cons ⟨b, ?_, ht.same s1⟩ .nil⟩
      exact Same.upd hq2 _ _ _ upd_same
    | any =>
      have hp' : H a = some (.tup [.str "any"]) := hp
      refine ⟨_, rfl, a, _, 0, _, rfl, rfl, SqT.of hp', at0, rfl, _, rfl, ifN (by decide +kernel) ?_⟩
      refine ⟨_, rfl, a, _, 0, _, rfl, rfl, SqT.of hp', at0, rfl, _, rfl, ifY (by decide +kernel) ?_⟩
      refine ⟨Nat.zero_le _, fun q1 hq1 => ⟨by show 2 ≤ sizeLine; decide, fun q2 hq2 => ?_⟩⟩
      have s1 : Same H (upd (upd H q1 (.lst [])) q2 (.lst [.ref q1, .non])) := (Same.upd hq1 _).trans (Same.upd hq2 _)
      refine ⟨_, rfl, b, _, 0, _, rfl, rfl, SqT.of (s1 _ _ htt), at0, rfl, .inr ⟨_, rfl, ?_⟩⟩
      by_cases hx : V.str (sgn t) = .str "name"
      · rw [decide_eq_true hx]
        refine ⟨q2, _, _, .ref q1, rfl, rfl, SqL.of upd_same, at0, ?_⟩
        have el : M50.laid .any t = some [] := by
          cases t with
          | name x => rfl
          | num n => exact absurd (show V.str ("num" : Str) = .str "name" from hx) (by decide +kernel)
          | piece n => exact absurd (show V.str ("piece" : Str) = .str "name" from hx) (by decide +kernel)
          | turn n => exact absurd (show V.str ("turn" : Str) = .str "name" from hx) (by decide +kernel)
          | bin s t u => exact absurd (V.str.inj hx) (sgS_ne s).2.2.1
        refine k1 [] el q1 _ s1 hq1 ⟨[], ?_, .nil⟩
        exact Same.upd hq2 _ _ _ upd_same
      · rw [decide_eq_false hx]
        refine ⟨q2, _, _, .non, rfl, rfl, SqL.of upd_same, at1, ?_⟩
        refine k0 ?_ _ s1
        cases t with
        | name x => exact absurd rfl hx
        | num n => rfl
        | piece n => rfl
        | turn n => rfl
        | bin s t u => rfl
    | from_ lo hi =>
      have hp' : H a = some (.tup [.str "from", .int lo, .int hi]) := hp
      refine ⟨_, rfl, a, _, 0, _, rfl, rfl, SqT.of hp', at0, rfl, _, rfl, ifN (by decide +kernel) ?_⟩
      refine ⟨_, rfl, a, _, 0, _, rfl, rfl, SqT.of hp', at0, rfl, _, rfl, ifN (by decide +kernel) ?_⟩
      refine ⟨_, rfl, a, _, 0, _, rfl, rfl, SqT.of hp', at0, rfl, _, rfl, ifY (by decide +kernel) ?_⟩
      refine ⟨Nat.zero_le _, fun q1 hq1 => ⟨by show 2 ≤ sizeLine; decide, fun q2 hq2 => ?_⟩⟩
      have s1 : Same H (upd (upd H q1 (.lst [])) q2 (.lst [.ref q1, .non])) := (Same.upd hq1 _).trans (Same.upd hq2 _)
      have hl : upd (upd H q1 (.lst [])) q2 (.lst [.ref q1, .non]) q1 = some (.lst []) := Same.upd hq2 _ _ _ upd_same
      have hl2 : upd (upd H q1 (.lst [])) q2 (.lst [.ref q1, .non]) q2 = some (.lst [.ref q1, .non]) := upd_same
      have hp2 := s1 _ _ hp'
      have ht2 := ht.same s1
      have htt2 := s1 _ _ htt
      generalize upd (upd H q1 (.lst [])) q2 (.lst [.ref q1, .non]) = H2 at *
      have off : M50.laid (.from_ lo hi) t = none → ∃ p xs i v, V.ref q2 = .ref p ∧ V.int 1 = .int i ∧ SqL K H2 p xs ∧ atI xs i = some v ∧ Q v H2 := fun el =>
        ⟨q2, _, _, .non, rfl, rfl, SqL.of hl2, at1, k0 el _ s1⟩
      by_cases hx : V.str (sgn t) = .str "num"
      · refine ⟨_, rfl, b, _, 0, _, rfl, rfl, SqT.of htt2, at0, rfl, _, rfl, ifN (by rw [decide_eq_true hx]; rfl) ?_⟩
        obtain ⟨n, rfl⟩ : ∃ n, t = .num n := by
          cases t with
          | num n => exact ⟨n, rfl⟩
          | name n => exact absurd (show V.str ("name" : Str) = .str "num" from hx) (by decide +kernel)
          | piece n => exact absurd (show V.str ("piece" : Str) = .str "num" from hx) (by decide +kernel)
          | turn n => exact absurd (show V.str ("turn" : Str) = .str "num" from hx) (by decide +kernel)
          | bin s t u => exact absurd (V.str.inj hx) (sgS_ne s).2.1
        have ht3 : H2 b = some (.tup [.str "num", .int n]) := ht2
        refine ⟨_, rfl, a, _, 1, _, rfl, rfl, SqT.of hp2, at1, _, rfl, b, _, 1, _, rfl, rfl, SqT.of ht3, at1, _, _, rfl, rfl, _, rfl, ?_⟩
        by_cases h1 : lo ≤ n
        · refine ifY (decide_eq_true h1) ?_
          refine ⟨_, rfl, a, _, 2, _, rfl, rfl, SqT.of hp2, at2, _, _, rfl, rfl, _, rfl, .inr ⟨_, rfl, ?_⟩⟩
          by_cases h2 : n ≤ hi
          · rw [decide_eq_true h2]
            exact ⟨q2, _, _, .ref q1, rfl, rfl, SqL.of hl2, at0, k1 [] (by rw [M50.laid, if_pos ⟨h1, h2⟩]) q1 _ s1 hq1 ⟨[], hl, .nil⟩⟩
          · rw [decide_eq_false h2]
            exact off (by rw [M50.laid, if_neg (fun z => h2 z.2)])
        · refine ifN (decide_eq_false h1) ?_
          exact ⟨_, rfl, .inr ⟨_, rfl, off (by rw [M50.laid, if_neg (fun z => h1 z.1)])⟩⟩
      · refine ⟨_, rfl, b, _, 0, _, rfl, rfl, SqT.of htt2, at0, rfl, _, rfl, ifY (by rw [decide_eq_false hx]; rfl) ?_⟩
        refine .inr ⟨_, rfl, off ?_⟩
        cases t with
        | num n => exact absurd rfl hx
        | name n => rfl
        | piece n => rfl
        | turn n => rfl
        | bin s t u => rfl
    | turn p => cases e
    | bin s p q => cases e
theorem ok_laid0 {f : Addr} {fd : FuncData} : FnOk P w K mg base CX0 0 f fd ["pattern", "tree"] (spLaid 0) := by
  have no : ∀ vs H Q E, ¬ spLaid 0 vs H Q E := fun vs H Q E h => by
    obtain ⟨a, b, p, t, _, _, _, h1, _⟩ := h
    have := pdep_pos p
    omega
  exact ⟨fun vs H Q E h => absurd h (no vs H Q E), fun A outer s H args us vs Q E _ _ _ _ h => absurd h (no vs H Q E)⟩
theorem ok_laid {f : Addr} {fd : FuncData} (F : Fun K "laid" "laid" sLaid f fd) (T : Txt K w mg) (bF : Binds K fd ["pattern", "tree"] []) (mF : mg "laid" = some (.ref f)) : ∀ n : Nat, FnOk P w K mg base CX0 n f fd ["pattern", "tree"] (spLaid n)
  | 0 => ok_laid0
  | n + 1 => ok_laid1 F T bF mF (ok_laid F T bF mF n)
end
end K50

/-! passed, free_label, goals_price. -/
namespace K50
open PySem PySem.Spec PyProof.Rows L2
open M50 (Tr Pt Tb Tile Sg Lab)

theorem pt_nohole {H : Hp} {p : Pt Str} {a : Addr} (h : PtAt H p a) (e : M50.isHole p = false) : ∃ x xs, H a = some (.tup (V.str x :: xs)) ∧ V.str x ≠ .str "at" := by
  cases p with
  | hole c => cases e
  | any => exact ⟨_, _, h, by decide +kernel⟩
  | from_ lo hi => exact ⟨_, _, h, by decide +kernel⟩
  | turn p =>
    obtain ⟨b, h1, _⟩ := h
    exact ⟨_, _, h1, by decide +kernel⟩
  | bin s p q =>
    obtain ⟨b, c, h1, _⟩ := h
    exact ⟨_, _, h1, fun z => (sgS_ne s).2.2.2.2.1 (V.str.inj z)⟩
theorem passStep_no {st : Lab Str × Bool} {tl : Tile Str} (e : M50.isHole tl.pat = false) : M50.passStep st tl = st := by
  unfold M50.passStep
  cases h : tl.pat with
  | hole c => rw [h] at e; cases e
  | _ => rfl
theorem passStep_none {st : Lab Str × Bool} {tl : Tile Str} {c : Str} (e : tl.pat = .hole c) (n : M50.look st.1 c = none) : M50.passStep st tl = st := by
  unfold M50.passStep
  rw [e]
  dsimp only
  rw [n]
theorem passStep_some {st : Lab Str × Bool} {tl : Tile Str} {c : Str} {v : Int} (e : tl.pat = .hole c) (n : M50.look st.1 c = some v) : M50.passStep st tl = ((M50.lessen st.1 tl.cls (v + tl.fee)).1, (M50.lessen st.1 tl.cls (v + tl.fee)).2 || st.2) := by
  unfold M50.passStep
  rw [e]
  dsimp only
  rw [n]
theorem take_succ {α : Type} {l : List α} {i : Nat} {a : α} (h : l[i]? = some a) : l.take (i + 1) = l.take i ++ [a] := by
  rw [List.take_add_one, h]
  rfl

section
variable {P : Program} {w : World} {K : PySem.W.Frag} {mg : Str → Option Value} {base : Heap}
/-! ### passed -/
def spPassed : Sp := fun vs H Q _ => ∃ (ta la : Addr) (T : Tb Str) (l : Lab Str), vs = [.ref ta, .ref la] ∧ TbAt H ta T ∧ TOk T ∧ LbAt H la l ∧ M50.Nn l ∧ l.length ≤ 200 ∧
  ∀ (p : Addr) (H' : Hp), Same H H' → H p = none → LbAt H' p (M50.passed T l) → (M50.passed T l).length ≤ l.length + T.tiles.length → Q (.ref p) H'
theorem scPassed : FnScope ["table", "label", "found", "changed", "name", "cls", "pattern", "price"] ["table", "label"] (defScope sPassed) := ⟨rfl, rfl, rfl, by decide +kernel, rfl, by decide +kernel, by decide +kernel⟩
theorem ok_passed {f g : Addr} {fd gd : FuncData} (F : Fun K "passed" "passed" sPassed f fd) (X : Txt K w mg)
    (G : FnOk P w K mg base CX0 1 g gd ["label", "cls", "price"] spLessen) (bG : Binds K gd ["label", "cls", "price"] []) (kG : PySem.W.keepIn K (.ref g) = true) (mG : mg "lessen" = some (.ref g)) :
    FnOk P w K mg base CX0 2 f fd ["table", "label"] spPassed := by
  refine F.ok scPassed (fun vs H Q E h => ?_) (fun cdv A outer s H vs Q E hr h => ?_)
  · obtain ⟨ta, la, T, l, rfl, _⟩ := h
    rfl
  obtain ⟨ta, la, T, l, rfl, hT, ok, hl, hn, hlen, k⟩ := h
  have nd := scPassed.nd
  have hu := hu_of hr
  refine ⟨_, pss_cons (ps_set (i := 2) nd rfl (Or.inl rfl) (pe_callTy call_dictD (by rfl) X.dict (by decide +kernel) (pa_cons (pv 1) pa_nil)))
    (pss_cons (ps_set (i := 3) nd rfl (Or.inl rfl) pe_bl)
    (pss_cons (ps_while PassesOwn.never (pt_val (pv 3))
      (pss_cons (ps_set (i := 3) nd rfl (Or.inl rfl) pe_bl)
      (pss_one (ps_for PassesOwn.never rfl (pi_tup (pe_ix ix_tup (pv 0) pe_int (fun _ _ => rfl)))
          (pg_tup rfl (pgs_cons (pg_name (i := 4) nd rfl (Or.inl rfl)) (pgs_cons (pg_name (i := 5) nd rfl (Or.inl rfl)) (pgs_cons (pg_name (i := 6) nd rfl (Or.inl rfl)) (pgs_cons (pg_name (i := 7) nd rfl (Or.inl rfl)) pgs_nil)))))
        (pss_one (ps_if (PW.pt (pw_and (pt_cmpR op_eq (pe_ix ix_tup (pv 6) pe_int (fun _ _ => rfl)) pe_str (nomark _)) (pw_and1 (pt_cmp (pc_din hu (pe_ix ix_tup (pv 6) pe_int (fun _ _ => rfl)) (pv 2))))))
          (pss_one (ps_set (i := 3) nd rfl (Or.inl rfl) (pe_or (pe_call G hr rfl mG kG bG .nil pass0 (pa_cons (pv 2) (pa_cons (pv 5) (pa_cons (pe_op op_add (pe_dget hu (pv 2) (pe_ix ix_tup (pv 6) pe_int (fun _ _ => rfl)) (fun _ _ => rfl)) (pv 7)) pa_nil)))) (pe_one (pv 3))))) pss_nil))))))
    (pss_one (ps_ret (pv 2))))), ?_⟩
  obtain ⟨ca, tt, qs, hta, hca, htt, hqs⟩ := id hT
  refine ⟨_, rfl, la, _, rfl, .inl hl, fun fp hfp => ?_⟩
  have s0 : Same H (upd H fp (.dK (lk l))) := Same.upd hfp _
  obtain ⟨n0, st0⟩ := M50.passed_steps ok.ok hn
  generalize hr' : M50.passed T l = r at *
  refine ⟨fun m σ H' => ∃ (cur : Lab Str) (b : Bool) (v4 v5 v6 v7 : Option V), σ = [some (.ref ta), some (.ref la), some (.ref fp), some (.bl b), v4, v5, v6, v7] ∧ Same H H' ∧ LbAt H' fp cur ∧ M50.Nn cur ∧ span T cur ≤ l.length + T.tiles.length ∧
      (b = true → ∃ n, m = n + 1 ∧ M50.Steps T n cur r) ∧ (b = false → m = 0 ∧ cur = r),
    ⟨n0 + 1, l, true, none, none, none, none, rfl, s0, upd_same, hn, Nat.add_le_add_left (lacks_le T l) _, fun _ => ⟨n0, rfl, st0⟩, fun z => nomatch z⟩, ?_⟩
  rintro m σ H' ⟨cur, b, v4, v5, v6, v7, rfl, hS, hL, hN, hsp, hb1, hb2⟩
  refine ⟨_, rfl, b, rfl, ?_⟩
  cases b with
  | false =>
    obtain ⟨_, e⟩ := hb2 rfl
    subst e
    refine ⟨_, rfl, k fp H' hS hfp hL ?_⟩
    have : cur.length ≤ span T cur := Nat.le_add_right _ _
    omega
  | true =>
    obtain ⟨n, rfl, hst⟩ := hb1 rfl
    refine ⟨fun σ' H'' => ∃ (b : Bool) (v4 v5 v6 v7 : Option V), σ' = [some (.ref ta), some (.ref la), some (.ref fp), some (.bl b), v4, v5, v6, v7] ∧ Same H H'' ∧ LbAt H'' fp (M50.round T cur).1 ∧ b = (M50.round T cur).2 ∧ M50.Nn (M50.round T cur).1 ∧ span T (M50.round T cur).1 ≤ l.length + T.tiles.length, ?_, ?_⟩
    · rintro σ' H'' ⟨b, w4, w5, w6, w7, rfl, g1, g2, g3, g4, g5⟩
      cases hst with
      | done e =>
        rw [e] at g2 g3 g4 g5
        exact ⟨0, Nat.succ_pos _, r, b, w4, w5, w6, w7, rfl, g1, g2, g4, g5, (fun z => by rw [g3] at z; cases z), fun _ => ⟨rfl, rfl⟩⟩
      | @more n' _ l' _ e st' =>
        rw [e] at g2 g3 g4 g5
        exact ⟨n' + 1, Nat.lt_succ_self _, l', b, w4, w5, w6, w7, rfl, g1, g2, g4, g5, (fun _ => ⟨n', rfl, st'⟩), fun z => by rw [g3] at z; cases z⟩
    · refine ⟨_, rfl, ta, _, 1, _, rfl, rfl, SqT.of (hS _ _ hta), at1, tt, rfl, ⟨_, SqT.of (hS _ _ htt)⟩, for_tup (K := K) (a := tt) (xs := qs.map V.ref) (fun i σ H'' => ∃ (st : Lab Str × Bool) (v4 v5 v6 v7 : Option V), σ = [some (.ref ta), some (.ref la), some (.ref fp), some (.bl st.2), v4, v5, v6, v7] ∧ Same H H'' ∧ LbAt H'' fp st.1 ∧
          st = (T.tiles.take i).foldl M50.passStep (cur, false) ∧ M50.Nn st.1 ∧ span T st.1 ≤ l.length + T.tiles.length)
        ⟨(cur, false), v4, v5, v6, v7, rfl, hS, hL, rfl, hN, hsp⟩ (fun i σ H'' _ ⟨_, _, _, _, _, _, g, _⟩ => SqT.of (g _ _ htt)) ?_ ?_⟩
      · rintro i x σ H'' hx ⟨st, v4, v5, v6, v7, rfl, g1, g2, g3, g4, g5⟩
        rw [List.getElem?_map] at hx
        obtain ⟨q, hqi, rfl⟩ := Option.map_eq_some_iff.mp hx
        obtain ⟨tl, hti, htl⟩ := Paired.at' hqs hqi
        have hmem : tl ∈ T.tiles := List.mem_of_getElem? hti
        obtain ⟨pp, hq, hpp⟩ := htl.same g1
        have hstep : (T.tiles.take (i + 1)).foldl M50.passStep (cur, false) = M50.passStep st tl := by
          rw [take_succ hti, List.foldl_append, ← g3]
          rfl
        have hc : tl.cls ∈ T.tiles.map (·.cls) := List.mem_map.mpr ⟨tl, hmem, rfl⟩
        refine ⟨q, _, rfl, SqT.of hq, rfl, _, _, rfl, _, _, rfl, _, _, rfl, _, _, rfl, rfl, ?_⟩
        cases hh : M50.isHole tl.pat with
        | false =>
          obtain ⟨y, ys, hy, hne⟩ := pt_nohole hpp hh
          refine ⟨_, rfl, pp, _, 0, _, rfl, rfl, SqT.of hy, at0, rfl, _, rfl, ifN (decF hne) (iteF ?_)⟩
          exact ⟨st, _, _, _, _, rfl, g1, g2, by rw [hstep, passStep_no hh], g4, g5⟩
        | true =>
          obtain ⟨c, ec⟩ : ∃ c, tl.pat = .hole c := by
            cases e : tl.pat with
            | hole c => exact ⟨c, rfl⟩
            | _ => rw [e] at hh; cases hh
          rw [ec] at hpp
          have hy : H'' pp = some (.tup [.str "at", .str c]) := hpp
          refine ⟨_, rfl, pp, _, 0, _, rfl, rfl, SqT.of hy, at0, rfl, _, rfl, ifY (by decide +kernel) ?_⟩
          refine ⟨_, rfl, pp, _, 1, _, rfl, rfl, SqT.of hy, at1, _, rfl, fp, _, rfl, lk_get g2 c, _, rfl, ?_⟩
          cases el : M50.look st.1 c with
          | none =>
            refine ifN rfl ?_
            exact ⟨st, _, _, _, _, rfl, g1, g2, by rw [hstep, passStep_none ec el], g4, g5⟩
          | some v =>
            refine ifY rfl ?_
            have hv0 := g4 _ _ el
            have hp0 : 0 ≤ v + tl.fee := Int.add_nonneg hv0 (ok.ok.fee tl hmem)
            have hsl : st.1.length ≤ span T st.1 := Nat.le_add_right _ _
            have hm := ok.many
            refine ⟨_, rfl, _, rfl, _, rfl, _, rfl, pp, _, 1, _, rfl, rfl, SqT.of hy, at1, fp, .int v, rfl, (by have := lk_get g2 c; rw [el] at this; exact this), _, rfl, _, _, rfl, rfl, ?_⟩
            refine ⟨fp, st.1, tl.cls, v + tl.fee, rfl, g2, (by have h6 : (1000 : Nat) < sizeLine := by decide
                                                               omega), _, rfl, ?_⟩
            have fin : ∀ bb : Bool, bb = ((M50.lessen st.1 tl.cls (v + tl.fee)).2 || st.2) → ∃ (st' : Lab Str × Bool) (v4 v5 v6 v7 : Option V), [some (V.ref ta), some (V.ref la), some (V.ref fp), some (V.bl bb), some (V.str tl.nm), some (V.str tl.cls), some (V.ref pp), some (V.int tl.fee)] = [some (V.ref ta), some (V.ref la), some (V.ref fp), some (V.bl st'.2), v4, v5, v6, v7] ∧ Same H (upd H'' fp (.dK (lk (M50.lessen st.1 tl.cls (v + tl.fee)).1))) ∧
                LbAt (upd H'' fp (.dK (lk (M50.lessen st.1 tl.cls (v + tl.fee)).1))) fp st'.1 ∧ st' = (T.tiles.take (i + 1)).foldl M50.passStep (cur, false) ∧ M50.Nn st'.1 ∧ span T st'.1 ≤ l.length + T.tiles.length := fun bb eb => by
              refine ⟨((M50.lessen st.1 tl.cls (v + tl.fee)).1, bb), _, _, _, _, rfl, fun c' o z => ?_, upd_same, ?_, M50.lessen_nn g4 hp0, Nat.le_trans (span_lessen _ hc) g5⟩
              · rw [upd_ne (ne_of_none z hfp)]
                exact g1 _ _ z
              · rw [hstep, passStep_some ec el, eb]
            cases eb : (M50.lessen st.1 tl.cls (v + tl.fee)).2 with
            | true => exact ifY rfl (fin true (by rw [eb]; rfl))
            | false => exact ifN rfl ⟨_, rfl, fin st.2 (by rw [eb]; rfl)⟩
      · rintro σ H'' ⟨st, v4, v5, v6, v7, rfl, g1, g2, g3, g4, g5⟩
        rw [List.length_map, Paired.length hqs, List.take_length] at g3
        have e : st = M50.round T cur := g3
        rw [e] at g2 g4 g5
        exact ⟨st.2, v4, v5, v6, v7, rfl, g1, g2, by rw [e], g4, g5⟩

/-! ### free_label -/
def spFree : Sp := fun vs H Q _ => ∃ (ta : Addr) (T : Tb Str), vs = [.ref ta] ∧ TbAt H ta T ∧ TOk T ∧ ∀ (p : Addr) (H' : Hp), Same H H' → H p = none → LbAt H' p (M50.freeLab T) → Q (.ref p) H'
theorem scFree : FnScope ["table", "found", "cls"] ["table"] (defScope sFree) := ⟨rfl, rfl, rfl, by decide +kernel, rfl, by decide +kernel, by decide +kernel⟩
theorem free_len (cs : List Str) : ∀ l : Lab Str, (cs.foldl (fun l c => M50.put l c 0) l).length ≤ l.length + cs.length := by
  induction cs with
  | nil => intro l; exact Nat.le_refl _
  | cons c cs ih =>
    intro l
    have h1 := ih (M50.put l c 0)
    have h2 := M50.length_put l c 0
    rw [List.foldl_cons, List.length_cons]
    omega
theorem ok_free {f : Addr} {fd : FuncData} (F : Fun K "free_label" "free_label" sFree f fd) : FnOk P w K mg base CX0 1 f fd ["table"] spFree := by
  refine F.ok scFree (fun vs H Q E h => ?_) (fun cdv A outer s H vs Q E hr h => ?_)
  · obtain ⟨ta, T, rfl, _⟩ := h
    rfl
  obtain ⟨ta, T, rfl, hT, ok, k⟩ := h
  have nd := scFree.nd
  have hu := hu_of hr
  refine ⟨_, pss_cons (ps_set (i := 1) nd rfl (Or.inl rfl) pe_dnewK)
    (pss_cons (ps_for PassesOwn.never rfl (pi_tup (pe_ix ix_tup (pv 0) pe_int (fun _ _ => rfl))) (pg_name (i := 2) nd rfl (Or.inl rfl))
      (pss_one (ps_dput hu (pv 1) (pv 2) pe_int rfl)))
    (pss_one (ps_ret (pv 1)))), ?_⟩
  obtain ⟨ca, tt, qs, hta, hca, htt, hqs⟩ := id hT
  intro fp hfp
  have s0 : Same H (upd H fp (.dK [])) := Same.upd hfp _
  refine ⟨_, rfl, ta, _, 0, _, rfl, rfl, SqT.of (s0 _ _ hta), at0, ca, rfl, ⟨_, (hca.same s0).sq⟩, for_tup (K := K) (a := ca) (xs := T.classes.map V.str) (fun i σ H' => ∃ v, σ = [some (.ref ta), some (.ref fp), v] ∧ Same H H' ∧ LbAt H' fp ((T.classes.take i).foldl (fun l c => M50.put l c 0) []))
    ⟨none, rfl, s0, upd_same⟩ (fun i σ H' _ ⟨_, _, z, _⟩ => (hca.same z).sq) ?_ ?_⟩
  · rintro i x σ H' hx ⟨v, rfl, g1, g2⟩
    rw [List.getElem?_map] at hx
    obtain ⟨c, hci, rfl⟩ := Option.map_eq_some_iff.mp hx
    have hlen := free_len (T.classes.take i) []
    have := ok.few
    rw [List.length_take, List.length_nil] at hlen
    have h6 : (1000 : Nat) < sizeLine := by decide
    refine ⟨_, rfl, _, rfl, fp, _, rfl, lk_putH g2 c 0 (Nat.lt_of_le_of_lt hlen (by omega)), _, rfl, fun b o z => ?_, ?_⟩
    · rw [upd_ne (ne_of_none z hfp)]
      exact g1 _ _ z
    · rw [take_succ hci, List.foldl_append]
      exact upd_same
  · rintro σ H' ⟨v, rfl, g1, g2⟩
    rw [List.length_map, List.take_length] at g2
    exact ⟨_, rfl, k fp H' g1 hfp g2⟩

/-! ### goals_price -/
def GlAt (H : Hp) (a : Addr) (gs : List (Nat × Str)) : Prop := ∃ qs : List Addr, H a = some (.lst (qs.map V.ref)) ∧ Paired (fun q (g : Nat × Str) => H q = some (.tup [.int (g.1 : Nat), .str g.2])) qs gs
theorem GlAt.same {H H' : Hp} {a : Addr} {gs : List (Nat × Str)} (h : GlAt H a gs) (s : Same H H') : GlAt H' a gs := by
  obtain ⟨qs, h1, h2⟩ := h
  exact ⟨qs, s _ _ h1, Paired.mapP h2 fun _ _ z => s _ _ z⟩
def spGoals : Sp := fun vs H Q _ => ∃ (sa ga : Addr) (st : List (Lab Str)) (gs : List (Nat × Str)), vs = [.ref sa, .ref ga] ∧ StAt H sa st ∧ GlAt H ga gs ∧ (∀ g ∈ gs, g.1 < st.length) ∧ Q (optV (M50.goalsPrice st gs 0)) H
theorem scGoals : FnScope ["stand", "goals", "total", "number", "cls"] ["stand", "goals"] (defScope sGoals) := ⟨rfl, rfl, rfl, by decide +kernel, rfl, by decide +kernel, by decide +kernel⟩
theorem ok_goals {f : Addr} {fd : FuncData} (F : Fun K "goals_price" "goals_price" sGoals f fd) : FnOk P w K mg base CX0 1 f fd ["stand", "goals"] spGoals := by
  refine F.ok scGoals (fun vs H Q E h => ?_) (fun cdv A outer s H vs Q E hr h => ?_)
  · obtain ⟨sa, ga, st, gs, rfl, _⟩ := h
    rfl
  obtain ⟨sa, ga, st, gs, rfl, hS, hG, hall, k⟩ := h
  have nd := scGoals.nd
  have hu := hu_of hr
  refine ⟨_, pss_cons (ps_set (i := 2) nd rfl (Or.inl rfl) pe_int)
    (pss_cons (ps_for PassesOwn.never rfl (pi_list (pv 1)) (pg_tup rfl (pgs_cons (pg_name (i := 3) nd rfl (Or.inl rfl)) (pgs_cons (pg_name (i := 4) nd rfl (Or.inl rfl)) pgs_nil)))
      (pss_cons (ps_if (pt_cmp (pc_dnotin hu (pv 4) (pe_ix ix_list (pv 0) (pv 3) (fun _ _ => rfl)))) (pss_one (ps_ret pe_non)) pss_nil)
      (pss_one (ps_set (i := 2) nd rfl (Or.inl rfl) (pe_op op_add (pv 2) (pe_dget hu (pe_ix ix_list (pv 0) (pv 3) (fun _ _ => rfl)) (pv 4) (fun _ _ => rfl)))))))
    (pss_one (ps_ret (pv 2)))), ?_⟩
  obtain ⟨qs, hq, hP⟩ := hG
  obtain ⟨ls, hl, hL⟩ := hS
  refine ⟨_, rfl, ga, rfl, ⟨_, SqL.of hq⟩, for_list (K := K) (a := ga) (xs := qs.map V.ref) (fun i σ H' => ∃ (tot : Int) (v1 v2 : Option V), H' = H ∧ σ = [some (.ref sa), some (.ref ga), some (.int tot), v1, v2] ∧ M50.goalsPrice st (gs.drop i) tot = M50.goalsPrice st gs 0)
    ⟨0, none, none, rfl, rfl, rfl⟩ (fun i σ H' _ ⟨_, _, _, e, _⟩ => by rw [e]; exact SqL.of hq) ?_ ?_⟩
  · rintro i x σ H' hx ⟨tot, v1, v2, rfl, rfl, hc⟩
    rw [List.getElem?_map] at hx
    obtain ⟨q, hqi, rfl⟩ := Option.map_eq_some_iff.mp hx
    obtain ⟨⟨n, c⟩, hi, hb⟩ := Paired.at' hP hqi
    have hlt : i < gs.length := (List.getElem?_eq_some_iff.mp hi).1
    have hdr : gs.drop i = (n, c) :: gs.drop (i + 1) := by
      rw [List.drop_eq_getElem_cons hlt, (List.getElem?_eq_some_iff.mp hi).2]
    rw [hdr, M50.goals_cons] at hc
    have hn : n < st.length := hall _ (List.mem_of_getElem? hi)
    have hst : st[n]? = some st[n] := List.getElem?_eq_getElem hn
    rw [hst, Option.getD_some] at hc
    obtain ⟨lq, hlq, hlb⟩ := Paired.at_ hL hst
    have hat : atI (ls.map V.ref) (n : Nat) = some (.ref lq) := atI_nat (by rw [List.getElem?_map, hlq]; rfl)
    refine ⟨q, _, rfl, SqT.of hb, rfl, _, _, rfl, _, _, rfl, rfl, ?_⟩
    refine ⟨_, rfl, _, rfl, _, rfl, sa, _, _, _, rfl, rfl, SqL.of hl, hat, lq, _, rfl, lk_get hlb c, _, rfl, ?_⟩
    cases e : M50.look st[n] c with
    | none =>
      rw [e] at hc
      refine ifY rfl ?_
      rw [← hc] at k
      exact k
    | some v =>
      rw [e] at hc
      refine ifN rfl ?_
      refine ⟨_, rfl, _, rfl, _, rfl, sa, _, _, _, rfl, rfl, SqL.of hl, hat, _, rfl, lq, .int v, rfl, (by have := lk_get hlb c; rw [e] at this; exact this), _, _, rfl, rfl, ?_⟩
      exact ⟨tot + v, _, _, rfl, rfl, hc⟩
  · rintro σ H' ⟨tot, v1, v2, rfl, rfl, hc⟩
    have hl : (qs.map V.ref).length = gs.length := by rw [List.length_map, Paired.length hP]
    rw [hl, List.drop_length] at hc
    have hc' : some tot = M50.goalsPrice st gs 0 := hc
    refine ⟨_, rfl, ?_⟩
    rw [← hc'] at k
    exact k
end
end K50

/-! label_in. -/
namespace K50
open PySem PySem.Spec PyProof.Rows L2
open M50 (Tr Pt Tb Tile Sg Lab)

theorem nn_ref (q : Addr) : (!decide (V.ref q = V.non)) = true := by simp
theorem nn_int (p : Int) : (!decide (V.int p = V.non)) = true := by simp
theorem knNn_take {T : Tb Str} (ok : M50.Ok T) {st : List (Lab Str)} (hs : M50.StNn st) (ts : List (Tr Str)) : M50.KnNn (ts.foldl (M50.labStep T st) []) := M50.labs_nn ok hs ts [] M50.KnNn.nil
theorem kn_len {T : Tb Str} {st : List (Lab Str)} : ∀ (ts : List (Tr Str)) (kn : M50.Kn Str), (ts.foldl (M50.labStep T st) kn).length ≤ kn.length + ts.length
  | [], kn => Nat.le_refl _
  | t :: ts, kn => by
    have h1 := kn_len (T := T) (st := st) ts (M50.labStep T st kn t)
    have h2 : (M50.labStep T st kn t).length ≤ kn.length + 1 := by
      unfold M50.labStep
      split
      · omega
      · rw [List.length_append, List.length_singleton]
        exact Nat.le_refl _
    rw [List.foldl_cons, List.length_cons]
    omega
theorem labOf_node {T : Tb Str} {st : List (Lab Str)} {kn : M50.Kn Str} {one : Tr Str} (h : V.str (sgn one) ≠ .str "piece") : M50.labOf T st kn one = M50.passed T (T.tiles.foldl (M50.tileStep kn one) []) := by
  cases one with
  | piece k => exact absurd rfl h
  | _ => rfl
theorem is_piece {one : Tr Str} (h : V.str (sgn one) = .str "piece") : ∃ k, one = .piece k := by
  cases one with
  | piece k => exact ⟨k, rfl⟩
  | num n => exact absurd (show V.str ("num" : Str) = .str "piece" from h) (by decide +kernel)
  | name n => exact absurd (show V.str ("name" : Str) = .str "piece" from h) (by decide +kernel)
  | turn n => exact absurd (show V.str ("turn" : Str) = .str "piece" from h) (by decide +kernel)
  | bin s t u => exact absurd (V.str.inj h) (sgS_ne s).2.2.2.1
theorem span_tile {T : Tb Str} {kn : M50.Kn Str} {one : Tr Str} {l : Lab Str} {tl : Tile Str} (h : tl ∈ T.tiles) : span T (M50.tileStep kn one l tl) ≤ span T l := by
  have hc : tl.cls ∈ T.tiles.map (·.cls) := List.mem_map.mpr ⟨tl, h, rfl⟩
  unfold M50.tileStep
  split
  · exact Nat.le_refl _
  · split
    · exact Nat.le_refl _
    · split
      · exact Nat.le_refl _
      · exact span_lessen _ hc
theorem tile_hole {kn : M50.Kn Str} {one : Tr Str} {l : Lab Str} {tl : Tile Str} (h : M50.isHole tl.pat = true) : M50.tileStep kn one l tl = l := by
  unfold M50.tileStep
  rw [if_pos h]
theorem tile_none {kn : M50.Kn Str} {one : Tr Str} {l : Lab Str} {tl : Tile Str} (h : M50.isHole tl.pat = false) (e : M50.laid tl.pat one = none) : M50.tileStep kn one l tl = l := by
  unfold M50.tileStep
  rw [if_neg (by rw [h]; decide), e]
theorem tile_some0 {kn : M50.Kn Str} {one : Tr Str} {l : Lab Str} {tl : Tile Str} {hs : List (Str × Tr Str)} (h : M50.isHole tl.pat = false) (e : M50.laid tl.pat one = some hs) (c : M50.costOf kn hs tl.fee = none) : M50.tileStep kn one l tl = l := by
  unfold M50.tileStep
  rw [if_neg (by rw [h]; decide), e]
  dsimp only
  rw [c]
theorem tile_some {kn : M50.Kn Str} {one : Tr Str} {l : Lab Str} {tl : Tile Str} {hs : List (Str × Tr Str)} {p : Int} (h : M50.isHole tl.pat = false) (e : M50.laid tl.pat one = some hs) (c : M50.costOf kn hs tl.fee = some p) : M50.tileStep kn one l tl = (M50.lessen l tl.cls p).1 := by
  unfold M50.tileStep
  rw [if_neg (by rw [h]; decide), e]
  dsimp only
  rw [c]
theorem step_in {T : Tb Str} {st : List (Lab Str)} {kn : M50.Kn Str} {one : Tr Str} (h : (M50.look kn one).isSome = true) : M50.labStep T st kn one = kn := by
  unfold M50.labStep
  rw [if_pos h]
theorem step_new {T : Tb Str} {st : List (Lab Str)} {kn : M50.Kn Str} {one : Tr Str} (h : M50.look kn one = none) : M50.labStep T st kn one = kn ++ [(one, M50.labOf T st kn one)] := by
  unfold M50.labStep
  rw [if_neg (by rw [h]; simp)]

section
variable {P : Program} {w : World} {K : PySem.W.Frag} {mg : Str → Option Value} {base : Heap}
/-- what a turn leaves -/
structure Turned (P : Program) (w : World) (H H' : Hp) (kp ul : Addr) (us : List Addr) (ts : List (Tr Str)) (kn : M50.Kn Str) : Prop where
  same : Same H H'
  list : H' ul = some (.lst (us.map V.ref))
  trees : Paired (fun b u => TrAt H' u b) us ts
  known : KnAt P w H' kp kn
theorem Turned.on {H H' H2 : Hp} {kp ul : Addr} {us : List Addr} {ts : List (Tr Str)} {kn : M50.Kn Str} (t : Turned P w H H' kp ul us ts kn) (s : Same H' H2) : Turned P w H H2 kp ul us ts kn :=
  ⟨t.same.trans s, s _ _ t.list, Paired.mapP t.trees fun _ _ z => z.same s, t.known.same s⟩
/-- if one not in known: known[one] = label -/
theorem lab_fin {T : Tb Str} {st : List (Lab Str)} {D : Ends} {v6 v7 v8 v9 v10 v11 : Option V} {ta ra sa kp ob lp ul : Addr} {H H2 : Hp} {us : List Addr} {ts : List (Tr Str)} {kn : M50.Kn Str} {one : Tr Str} {L : Lab Str}
    (hk : H kp = none) (t : Turned P w H H2 kp ul us ts kn) (ho : TrAt H2 one ob) (hd : dep one ≤ 8) (hl : LbAt H2 lp L) (hL : M50.look kn one = none → L = M50.labOf T st kn one) (hz : kn.length < sizeLine)
    (q : ∀ H3, Turned P w H H3 kp ul us ts (M50.labStep T st kn one) → D.nx [some (.ref ta), some (.ref ra), some (.ref sa), some (.ref kp), some (.ref ob), some (.ref lp), v6, v7, v8, v9, v10, v11] H3) :
    tIfS (tTest (tOp (rNIn P w true) (tVar 4) (tVar 3))) (sNPut P w (tVar 3) (tVar 4) (tVar 5)) tNext D [some (.ref ta), some (.ref ra), some (.ref sa), some (.ref kp), some (.ref ob), some (.ref lp), v6, v7, v8, v9, v10, v11] H2 := by
  obtain ⟨rows, hN, hR⟩ := t.known
  have hkd : (key one).depth ≤ 8 := Nat.le_trans (key_depth one) hd
  have hrl : (rws rows).length = kn.length := by
    unfold rws
    rw [List.length_map]
    exact Paired.length hR
  refine ⟨_, rfl, _, rfl, kp, ob, key one, rws rows, rfl, rfl, hN, key_at ho, hkd, _, rfl, ?_⟩
  rw [if_pos rfl, rws_val, Option.isSome_map]
  rcases hR.look one with ⟨e1, e2⟩ | ⟨q1, l1, e1, e2, _⟩
  · rw [e1]
    refine ifY rfl ?_
    refine ⟨_, rfl, _, rfl, _, rfl, kp, ob, key one, rws rows, rfl, rfl, hN, by rw [hrl]; exact hz, key_at ho, hkd, fun o hN' => q _ ?_⟩
    obtain ⟨ok, ek⟩ := hN.there
    have tp : Tups H2 (upd H2 kp o) := Tups.upd ek (fun xs z => nomatch z) _
    have ne1 : ∀ b u, H2 b = some (.dK u) → b ≠ kp := fun b u z => ne_of z ek fun z' => nomatch z'
    rw [step_new e2, ← hL e2]
    refine ⟨fun b u z => ?_, ?_, Paired.mapP t.trees fun _ _ z => z.tups tp, rows ++ [(one, lp)], ?_, ?_⟩
    · rw [upd_ne (ne_of_none z hk)]
      exact t.same _ _ z
    · rw [upd_ne (ne_of t.list ek fun z' => nomatch z')]
      exact t.list
    · have e3 : putK (rws rows) (key one) (.ref lp) = rws (rows ++ [(one, lp)]) := by
        rw [putK_new _ (by rw [rws_val, e1]; rfl)]
        unfold rws
        rw [List.map_append]
        rfl
      rw [← e3]
      exact hN'
    · refine Paired.snoc (Paired.mapP hR fun _ _ z => ⟨z.1, ?_⟩) ⟨rfl, ?_⟩
      · exact (upd_ne (ne1 _ _ z.2)).trans z.2
      · exact (upd_ne (ne1 _ _ hl)).trans hl
  · rw [e1]
    refine ifN rfl ?_
    refine q _ ?_
    rw [step_in (by rw [e2]; rfl)]
    exact ⟨t.same, t.list, t.trees, rows, hN, hR⟩

def spLabelIn : Sp := fun vs H Q _ => ∃ (ta ra sa : Addr) (T : Tb Str) (t : Tr Str) (st : List (Lab Str)), vs = [.ref ta, .ref ra, .ref sa] ∧ TbAt H ta T ∧ TOk T ∧ TrAt H t ra ∧ dep t ≤ 3 ∧ pcs st.length t ∧ StAt H sa st ∧ M50.StNn st ∧
  ∀ (p : Addr) (H' : Hp), Same H H' → LbAt H' p (M50.labelIn T t st) → Q (.ref p) H'
theorem scLab : FnScope ["table", "tree", "stand", "known", "one", "label", "name", "cls", "pattern", "price", "holes", "cost"] ["table", "tree", "stand"] (defScope sLabelIn) := ⟨rfl, rfl, rfl, by decide +kernel, rfl, by decide +kernel, by decide +kernel⟩
theorem ok_labelIn {f fu fl fc fs fp : Addr} {fd du dl dc ds dp : FuncData} (F : Fun K "label_in" "label_in" sLabelIn f fd) (X : Txt K w mg)
    (U : FnOk P w K mg base CX0 4 fu du ["tree"] (spUnder 3)) (bU : Binds K du ["tree"] []) (kU : PySem.W.keepIn K (.ref fu) = true) (mU : mg "under" = some (.ref fu))
    (L : FnOk P w K mg base CX0 3 fl dl ["pattern", "tree"] (spLaid 3)) (bL : Binds K dl ["pattern", "tree"] []) (kL : PySem.W.keepIn K (.ref fl) = true) (mL : mg "laid" = some (.ref fl))
    (C : FnOk P w K mg base CX0 1 fc dc ["holes", "price", "known"] (spCost P w)) (bC : Binds K dc ["holes", "price", "known"] []) (kC : PySem.W.keepIn K (.ref fc) = true) (mC : mg "cost_of" = some (.ref fc))
    (S : FnOk P w K mg base CX0 1 fs ds ["label", "cls", "price"] spLessen) (bS : Binds K ds ["label", "cls", "price"] []) (kS : PySem.W.keepIn K (.ref fs) = true) (mS : mg "lessen" = some (.ref fs))
    (Pa : FnOk P w K mg base CX0 2 fp dp ["table", "label"] spPassed) (bP : Binds K dp ["table", "label"] []) (kP : PySem.W.keepIn K (.ref fp) = true) (mP : mg "passed" = some (.ref fp)) :
    FnOk P w K mg base CX0 5 f fd ["table", "tree", "stand"] spLabelIn := by
  refine F.ok scLab (fun vs H Q E h => ?_) (fun cdv A outer s H vs Q E hr h => ?_)
  · obtain ⟨ta, ra, sa, T, t, st, rfl, _⟩ := h
    rfl
  obtain ⟨ta, ra, sa, T, t, st, rfl, hT, ok, ht, hdep, hpc, hSt, hnn, k⟩ := h
  have nd := scLab.nd
  have hu := hu_of hr
  have hv := hv_of hr
  have hr1 : Room 1 _ := hr.mono (by decide)
  have hr2 : Room 2 _ := hr.mono (by decide)
  have hr3 : Room 3 _ := hr.mono (by decide)
  refine ⟨_, pss_cons (ps_set (i := 3) nd rfl (Or.inl rfl) pe_nnew)
    (pss_cons (ps_for PassesOwn.never rfl (pi_reversed (by rfl) X.reversed (pa_cons (pe_call U hr rfl mU kU bU .nil pass0 (pa_cons (pv 1) pa_nil)) pa_nil)) (pg_name (i := 4) nd rfl (Or.inl rfl))
      (pss_cons (ps_set (i := 5) nd rfl (Or.inl rfl) pe_dnewK)
      (pss_cons (ps_if (pt_cmpR op_eq (pe_ix ix_tup (pv 4) pe_int (fun _ _ => rfl)) pe_str (nomark _))
          (pss_one (ps_set (i := 5) nd rfl (Or.inl rfl) (pe_ix ix_list (pv 2) (pe_ix ix_tup (pv 4) pe_int (fun _ _ => rfl)) (fun _ _ => rfl))))
          (pss_one (ps_if (pt_cmpR (op_nnotin hv) (pv 4) (pv 3) (by rfl))
            (pss_cons (ps_for PassesOwn.never rfl (pi_tup (pe_ix ix_tup (pv 0) pe_int (fun _ _ => rfl)))
                (pg_tup rfl (pgs_cons (pg_name (i := 6) nd rfl (Or.inl rfl)) (pgs_cons (pg_name (i := 7) nd rfl (Or.inl rfl)) (pgs_cons (pg_name (i := 8) nd rfl (Or.inl rfl)) (pgs_cons (pg_name (i := 9) nd rfl (Or.inl rfl)) pgs_nil)))))
              (pss_cons (ps_set (i := 10) nd rfl (Or.inl rfl) pe_non)
              (pss_cons (ps_if (pt_cmpR op_ne (pe_ix ix_tup (pv 8) pe_int (fun _ _ => rfl)) pe_str (nomark _))
                (pss_one (ps_set (i := 10) nd rfl (Or.inl rfl) (pe_call L hr3 rfl mL kL bL .nil pass0 (pa_cons (pv 8) (pa_cons (pv 4) pa_nil))))) pss_nil)
              (pss_one (ps_if (pt_cmp (pc_notN (pv 10)))
                (pss_cons (ps_set (i := 11) nd rfl (Or.inl rfl) (pe_call C hr1 rfl mC kC bC .nil pass0 (pa_cons (pv 10) (pa_cons (pv 9) (pa_cons (pv 3) pa_nil)))))
                (pss_one (ps_if (pt_cmp (pc_notN (pv 11)))
                  (pss_one (ps_expr (pe_call S hr1 rfl mS kS bS .nil pass0 (pa_cons (pv 5) (pa_cons (pv 7) (pa_cons (pv 11) pa_nil)))))) pss_nil))) pss_nil)))))
            (pss_one (ps_set (i := 5) nd rfl (Or.inl rfl) (pe_call Pa hr2 rfl mP kP bP .nil pass0 (pa_cons (pv 0) (pa_cons (pv 5) pa_nil)))))) pss_nil)))
      (pss_one (ps_if (pt_cmpR (op_nnotin hv) (pv 4) (pv 3) (by rfl)) (pss_one (ps_nput hv (pv 3) (pv 4) (pv 5) rfl)) pss_nil)))))
    (pss_one (ps_ret (pe_nget hv (pv 3) (pv 1) (fun _ _ => rfl))))), ?_⟩
  obtain ⟨ca, tt, qs, hta, hca, htt, hqs⟩ := id hT
  intro kp o0 hkp hN0
  have s0 : Same H (upd H kp o0) := Same.upd hkp _
  have hrl : (M50.under t).reverse.length ≤ 8 := by
    have := under_len t 3 hdep
    rw [List.length_reverse]
    omega
  refine ⟨_, rfl, ra, t, rfl, ht.same s0, hdep, by decide, fun ul us H1 s1 nul hul hus => ?_⟩
  refine ⟨ul, _, rfl, SqL.of hul, RT.for_Itv (K := K) (a := ul) (xs := us.map V.ref) (fun i σ H' => ∃ (v4 v5 v6 v7 v8 v9 v10 v11 : Option V), σ = [some (.ref ta), some (.ref ra), some (.ref sa), some (.ref kp), v4, v5, v6, v7, v8, v9, v10, v11] ∧
      Turned P w H H' kp ul us (M50.under t) (((M50.under t).reverse.take i).foldl (M50.labStep T st) []))
    ⟨none, none, none, none, none, none, none, none, rfl, s0.trans s1, hul, hus, [], hN0.same s1, .nil⟩ (fun i σ H' ⟨_, _, _, _, _, _, _, _, _, z⟩ => SqL.of z.list) ?_ ?_⟩
  · rintro i x σ H' hlt hx ⟨v4, v5, v6, v7, v8, v9, v10, v11, rfl, tn⟩
    rw [List.length_map] at hlt
    rw [List.getElem?_map, List.length_map] at hx
    obtain ⟨ob, hoi, rfl⟩ := Option.map_eq_some_iff.mp hx
    obtain ⟨one, hone, ho⟩ := Paired.at' tn.trees hoi
    have hul' : us.length = (M50.under t).length := Paired.length hus
    have hrev : (M50.under t).reverse[i]? = some one := by
      rw [List.getElem?_reverse (by omega), ← hul']
      exact hone
    have hmem : one ∈ M50.under t := List.mem_of_getElem? hone
    have hd1 : dep one ≤ 3 := Nat.le_trans (dep_under t one hmem) hdep
    have hd8 : dep one ≤ 8 := by omega
    have hpc1 : pcs st.length one := pcs_under t hpc one hmem
    have hstep : ((M50.under t).reverse.take (i + 1)).foldl (M50.labStep T st) [] = M50.labStep T st (((M50.under t).reverse.take i).foldl (M50.labStep T st) []) one := by
      rw [take_succ hrev, List.foldl_append]
      rfl
    have hknn := knNn_take ok.ok hnn ((M50.under t).reverse.take i)
    have hkl : (((M50.under t).reverse.take i).foldl (M50.labStep T st) []).length < sizeLine := by
      have h1 := kn_len (T := T) (st := st) ((M50.under t).reverse.take i) []
      rw [List.length_take, List.length_nil] at h1
      have h6 : (1000 : Nat) < sizeLine := by decide
      omega
    have hkn8 : ∀ {tl : Tile Str} {hs : List (Str × Tr Str)}, M50.isHole tl.pat = false → M50.laid tl.pat one = some hs → ∀ h ∈ hs, (M50.look (((M50.under t).reverse.take i).foldl (M50.labStep T st) []) h.2).isSome = true ∧ dep h.2 ≤ 8 := fun {tl hs} e1 e2 h hm =>
      ⟨M50.holes_known hrev e1 e2 h hm, Nat.le_trans (dep_under one h.2 (M50.laid_under _ _ _ e2 h hm)) hd8⟩
    generalize hkn : ((M50.under t).reverse.take i).foldl (M50.labStep T st) [] = kn at *
    obtain ⟨tx, txs, hto, _, _⟩ := tr_head ho
    intro lp hlp
    have s2 : Same H' (upd H' lp (.dK [])) := Same.upd hlp _
    refine ⟨_, rfl, ob, _, 0, _, rfl, rfl, SqT.of (s2 _ _ hto), at0, rfl, _, rfl, ?_⟩
    by_cases hp : V.str (sgn one) = .str "piece"
    · refine ifY (decide_eq_true hp) ?_
      obtain ⟨j, rfl⟩ := is_piece hp
      have ho' : H' ob = some (.tup [.str "piece", .int (j : Nat)]) := ho
      obtain ⟨ls, hls, hL⟩ := hSt.same tn.same
      have hj : j < st.length := hpc1
      have hst : st[j]? = some st[j] := List.getElem?_eq_getElem hj
      obtain ⟨lq, hlq, hlb⟩ := Paired.at_ hL hst
      have hat : atI (ls.map V.ref) (j : Nat) = some (.ref lq) := atI_nat (by rw [List.getElem?_map, hlq]; rfl)
      refine ⟨_, rfl, _, rfl, ob, _, 1, _, rfl, rfl, SqT.of (s2 _ _ ho'), at1, sa, _, _, _, rfl, rfl, SqL.of (s2 _ _ hls), hat, ?_⟩
      refine lab_fin hkp (tn.on s2) (ho.same s2) hd8 (s2 _ _ hlb) (fun _ => ?_) hkl fun H3 t3 => ⟨_, _, _, _, _, _, _, _, rfl, by rw [hstep]; exact t3⟩
      show st[j] = (st[j]?).getD []
      rw [hst]
      rfl
    · refine ifN (decide_eq_false hp) ?_
      obtain ⟨rows, hN, hR⟩ := (tn.on s2).known
      have hkd : (key one).depth ≤ 8 := Nat.le_trans (key_depth one) hd8
      refine ⟨_, rfl, _, rfl, kp, ob, key one, rws rows, rfl, rfl, hN, key_at (ho.same s2), hkd, _, rfl, ?_⟩
      rw [if_pos rfl, rws_val, Option.isSome_map]
      rcases hR.look one with ⟨e1, e2⟩ | ⟨q1, l1, e1, e2, _⟩
      · rw [e1]
        refine ifY rfl ?_
        refine ⟨_, rfl, ta, _, 1, _, rfl, rfl, SqT.of (s2 _ _ (tn.same _ _ hta)), at1, tt, rfl, ⟨_, SqT.of (s2 _ _ (tn.same _ _ htt))⟩, for_tup (K := K) (a := tt) (xs := qs.map V.ref) (fun j σ H3 => ∃ (L : Lab Str) (v6 v7 v8 v9 v10 v11 : Option V), σ = [some (.ref ta), some (.ref ra), some (.ref sa), some (.ref kp), some (.ref ob), some (.ref lp), v6, v7, v8, v9, v10, v11] ∧
            Same H' H3 ∧ LbAt H3 lp L ∧ L = (T.tiles.take j).foldl (M50.tileStep kn one) [] ∧ M50.Nn L ∧ span T L ≤ T.tiles.length)
          ⟨[], v6, v7, v8, v9, v10, v11, rfl, s2, upd_same, rfl, M50.Nn.nil, ?_⟩ (fun j σ H3 _ ⟨_, _, _, _, _, _, _, _, z, _⟩ => SqT.of (z _ _ (tn.same _ _ htt))) ?_ ?_⟩
        · have := lacks_le T ([] : Lab Str)
          unfold span
          rw [List.length_nil]
          omega
        · rintro j x σ H3 hx ⟨L, v6, v7, v8, v9, v10, v11, rfl, g1, g2, g3, g4, g5⟩
          rw [List.getElem?_map] at hx
          obtain ⟨q, hqi, rfl⟩ := Option.map_eq_some_iff.mp hx
          obtain ⟨tl, hti, htl⟩ := Paired.at' hqs hqi
          have hmt : tl ∈ T.tiles := List.mem_of_getElem? hti
          obtain ⟨pp, hq, hpp⟩ := (htl.same tn.same).same g1
          have hts : (T.tiles.take (j + 1)).foldl (M50.tileStep kn one) [] = M50.tileStep kn one L tl := by
            rw [take_succ hti, List.foldl_append, ← g3]
            rfl
          refine ⟨q, _, rfl, SqT.of hq, rfl, _, _, rfl, _, _, rfl, _, _, rfl, _, _, rfl, rfl, ?_⟩
          cases hh : M50.isHole tl.pat with
          | true =>
            obtain ⟨c, ec⟩ : ∃ c, tl.pat = .hole c := by
              cases e : tl.pat with
              | hole c => exact ⟨c, rfl⟩
              | _ => rw [e] at hh; cases hh
            rw [ec] at hpp
            have hy : H3 pp = some (.tup [.str "at", .str c]) := hpp
            refine ⟨_, rfl, pp, _, 0, _, rfl, rfl, SqT.of hy, at0, rfl, _, rfl, ifN (by decide +kernel) ?_⟩
            refine ⟨_, rfl, _, rfl, ifN (by decide) ?_⟩
            exact ⟨L, _, _, _, _, _, _, rfl, g1, g2, by rw [hts, tile_hole hh], g4, g5⟩
          | false =>
            obtain ⟨y, ys, hy, hne⟩ := pt_nohole hpp hh
            refine ⟨_, rfl, pp, _, 0, _, rfl, rfl, SqT.of hy, at0, rfl, _, rfl, ifY (by rw [decide_eq_false hne]; rfl) ?_⟩
            refine ⟨_, rfl, _, rfl, pp, ob, tl.pat, one, rfl, hpp, ho.same g1, ok.deep tl hmt, by decide, fun eN H4 s4 => ?_, fun hs eS hp' H4 s4 nq hH => ?_⟩
            · refine ⟨_, rfl, _, rfl, ifN (by decide) ?_⟩
              exact ⟨L, _, _, _, _, _, _, rfl, g1.trans s4, s4 _ _ g2, by rw [hts, tile_none hh eN], g4, g5⟩
            · refine ⟨_, rfl, _, rfl, ifY (nn_ref _) ?_⟩
              refine ⟨_, rfl, _, rfl, _, rfl, hp', kp, hs, kn, tl.fee, rfl, hH, tn.known.same (g1.trans s4), hkn8 hh eS, ?_⟩
              cases ec : M50.costOf kn hs tl.fee with
              | none =>
                refine ⟨_, rfl, _, rfl, ifN (by decide) ?_⟩
                exact ⟨L, _, _, _, _, _, _, rfl, g1.trans s4, s4 _ _ g2, by rw [hts, tile_some0 hh eS ec], g4, g5⟩
              | some p =>
                refine ⟨_, rfl, _, rfl, ifY (nn_int p) ?_⟩
                have hp0 : 0 ≤ p := M50.costOf_nn hknn _ _ _ (ok.ok.fee tl hmt) ec
                have hsl : L.length ≤ span T L := Nat.le_add_right _ _
                have hm := ok.many
                have h6 : (1000 : Nat) < sizeLine := by decide
                refine ⟨_, rfl, _, rfl, _, rfl, lp, L, tl.cls, p, rfl, s4 _ _ g2, by omega, ?_⟩
                refine ⟨(M50.lessen L tl.cls p).1, _, _, _, _, _, _, rfl, fun c o z => ?_, upd_same, by rw [hts, tile_some hh eS ec], M50.lessen_nn g4 hp0, ?_⟩
                · rw [upd_ne (ne_of_none z hlp)]
                  exact s4 _ _ (g1 _ _ z)
                · exact Nat.le_trans (span_lessen _ (List.mem_map.mpr ⟨tl, hmt, rfl⟩)) g5
        · rintro σ H3 ⟨L, v6, v7, v8, v9, v10, v11, rfl, g1, g2, g3, g4, g5⟩
          rw [List.length_map, Paired.length hqs, List.take_length] at g3
          have hsl : L.length ≤ span T L := Nat.le_add_right _ _
          have hm := ok.many
          refine ⟨_, rfl, _, rfl, ta, lp, T, L, rfl, hT.same (tn.same.trans g1), ok, g2, g4, by omega, fun lp2 H4 s4 _ hl4 _ => ?_⟩
          refine lab_fin hkp (tn.on (g1.trans s4)) (ho.same (g1.trans s4)) hd8 hl4 (fun _ => ?_) hkl fun H5 t5 => ⟨_, _, _, _, _, _, _, _, rfl, by rw [hstep]; exact t5⟩
          rw [labOf_node hp, g3]
      · rw [e1]
        refine ifN rfl ?_
        refine lab_fin (L := []) hkp (tn.on s2) (ho.same s2) hd8 upd_same (fun z => ?_) hkl fun H5 t5 => ⟨_, _, _, _, _, _, _, _, rfl, by rw [hstep]; exact t5⟩
        rw [e2] at z
        cases z
  · rintro σ H' ⟨v4, v5, v6, v7, v8, v9, v10, v11, rfl, tn⟩
    have hul' : us.length = (M50.under t).reverse.length := by rw [List.length_reverse]; exact Paired.length hus
    rw [List.length_map, hul', List.take_length] at tn
    obtain ⟨rows, hN, hR⟩ := tn.known
    have htop := M50.top_known (T := T) (stand := st) t
    rcases hR.look t with ⟨_, e2⟩ | ⟨q, l, e1, e2, e3⟩
    · rw [e2] at htop
      cases htop
    · refine ⟨_, rfl, _, rfl, kp, ra, key t, rws rows, .ref q, rfl, rfl, hN, key_at (ht.same tn.same), by have := key_depth t; omega, by rw [rws_val, e1]; rfl, ?_⟩
      refine k q H' tn.same ?_
      unfold M50.labelIn
      rw [e2]
      exact e3
end
end K50

/-! web_labels, front_price. -/
namespace K50
open PySem PySem.Spec PyProof.Rows L2
open M50 (Tr Pt Tb Tile Sg Lab)

/-! rules with K written out, for what stands within a comprehension -/
section
variable {X : Cx} {K : PySem.W.Frag}
def rTupOf (K : PySem.W.Frag) : List V → Hp → VK → Prop := fun xs H Q => ∃ p ys, xs = [.ref p] ∧ ((SqL K H p ys ∧ ∀ l, H l = none → Q (.ref l) (upd H l (.tup ys))) ∨ (SqT K H p ys ∧ Q (.ref p) H))
theorem call_tuple_ofK (h : X.K = K) : CallR X (.type "tuple") (rTupOf K) := by subst h; exact call_tuple_of
theorem ix_tupK (h : X.K = K) : IxR X (rIxT K) := by subst h; exact ix_tup
theorem ix_listK (h : X.K = K) : IxR X (rIxL K) := by subst h; exact ix_list
theorem pi_tupK {tg l : Expr} {tl : TE} (h : X.K = K) (hl : PE X l tl) : PI X tg l (iTup K tl) := by subst h; exact pi_tup hl
def rLenSeq (K : PySem.W.Frag) : List V → Hp → VK → Prop := fun xs H Q => ∃ p ys, xs = [.ref p] ∧ (SqL K H p ys ∨ SqT K H p ys) ∧ Q (.int ys.length) H
theorem call_len_seqK (h : X.K = K) : CallR X (.builtin "len") (rLenSeq K) := by subst h; exact call_len_seq
end
theorem pg_tupK {X : Cx} {K : PySem.W.Frag} {es : List Expr} {k : Nat} {pos : Pos} {t : TGs} {n : Nat} (e : X.K = K) (hc : X.calm = true) (h : PGs X es t)
    (hn : (assignEach es X.env).length = n := by rfl) (hst : (assignEach es X.env).findIdx? (·.1) = none := by rfl) : PG X (.Tuple es k pos) (gTup K n t) := by subst e; exact pg_tup hc h hn hst
theorem yesI {σ : L2.St} {H : Hp} {A B : Hp → Prop} (h : A H) : tYes σ H (fun b H3 => if b = true then A H3 else B H3) := by
  unfold tYes
  exact iteT h
theorem bt_tuple : bootBuiltins "tuple" = some (.type "tuple") := by decide +kernel
def lcScope : Expr → Scope
  | .ListComp _ _ sc _ => sc
  | _ => { kind := .function, names := [], isGenerator := false, isCoroutine := false }
def retE : Stmt → Expr
  | .Return (some e) _ => e
  | _ => .Constant .none 0 ⟨0, 0, 0, 0⟩
theorem optV_eq (o : Option Int) : (o.map V.int).getD .non = optV o := by cases o <;> rfl
theorem StAt.snoc {H : Hp} {a q : Addr} {st : List (Lab Str)} {l : Lab Str} {qs : List Addr} (h1 : H a = some (.lst (qs.map V.ref))) (h2 : Paired (LbAt H) qs st) (h3 : LbAt H q l) : StAt (upd H a (.lst (qs.map V.ref ++ [.ref q]))) a (st ++ [l]) := by
  have ne : ∀ b u, H b = some (.dK u) → b ≠ a := fun b u z => ne_of z h1 fun z' => nomatch z'
  refine ⟨qs ++ [q], ?_, Paired.snoc (Paired.mapP h2 fun _ _ z => ?_) ?_⟩
  · rw [upd_same, List.map_append]
    rfl
  · exact (upd_ne (ne _ _ z)).trans z
  · exact (upd_ne (ne _ _ h3)).trans h3

section
variable {P : Program} {w : World} {K : PySem.W.Frag} {mg : Str → Option Value} {base : Heap}
/-! ### web_labels -/
def rowOf (T : Tb Str) (l : Lab Str) : List V := T.classes.map fun c => optV (M50.look l c)
def ToldAt (T : Tb Str) (H : Hp) (p : Addr) (ls : List (Lab Str)) : Prop := ∃ rs : List Addr, H p = some (.lst (rs.map V.ref)) ∧ Paired (fun r l => H r = some (.tup (rowOf T l))) rs ls
theorem ToldAt.same {T : Tb Str} {H H' : Hp} {p : Addr} {ls : List (Lab Str)} (h : ToldAt T H p ls) (s : Same H H') : ToldAt T H' p ls := by
  obtain ⟨rs, h1, h2⟩ := h
  exact ⟨rs, s _ _ h1, Paired.mapP h2 fun _ _ z => s _ _ z⟩
def spWebLabels : Sp := fun vs H Q _ => ∃ (ta wa : Addr) (T : Tb Str) (ws : List (Tr Str)), vs = [.ref ta, .ref wa] ∧ TbAt H ta T ∧ TOk T ∧ WbAt H wa ws ∧ WOk ws ∧
  ∀ (p : Addr) (H' : Hp), Same H H' → H p = none → ToldAt T H' p (M50.webLabels T ws []) → Q (.ref p) H'
abbrev nWL : List Str := ["table", "web", "stand", "tree", "label", "cls"]
theorem scWL : FnScope nWL ["table", "web"] (defScope sWebLabels) := ⟨rfl, rfl, rfl, by decide +kernel, rfl, by decide +kernel, by decide +kernel⟩
theorem ok_webLabels {f g : Addr} {fd gd : FuncData} (F : Fun K "web_labels" "web_labels" sWebLabels f fd) (X : Txt K w mg)
    (G : FnOk P w K mg base CX0 5 g gd ["table", "tree", "stand"] spLabelIn) (bG : Binds K gd ["table", "tree", "stand"] []) (kG : PySem.W.keepIn K (.ref g) = true) (mG : mg "label_in" = some (.ref g)) :
    FnOk P w K mg base CX0 6 f fd ["table", "web"] spWebLabels := by
  refine F.ok scWL (fun vs H Q E h => ?_) (fun cdv A outer s H vs Q E hr h => ?_)
  · obtain ⟨ta, wa, T, ws, rfl, _⟩ := h
    rfl
  obtain ⟨ta, wa, T, ws, rfl, hT, ok, hW, wok, k⟩ := h
  have nd := scWL.nd
  have hu := hu_of hr
  refine ⟨_, pss_cons (ps_set (i := 2) nd rfl (Or.inl rfl) (pe_lst pa_nil))
    (pss_cons (ps_for PassesOwn.never rfl (pi_tup (pv 1)) (pg_name (i := 3) nd rfl (Or.inl rfl))
      (pss_one (ps_expr (pe_bm PySem.F.plainAttrs_list PySem.F.slot_list_append PySem.F.type_list_append mt_append (pv 2) (pa_cons (pe_call G hr rfl mG kG bG .nil pass0 (pa_cons (pv 0) (pa_cons (pv 3) (pa_cons (pv 2) pa_nil)))) pa_nil)))))
    (pss_one (ps_ret (pe_lc (own := [("label", 4)]) (g := gName 4) (tt := tYes) rfl nd (pi_list (pv 2)) (blkOk_by (N := nWL) (sc := defScope sWebLabels) (by decide +kernel))
      (fun _ _ _ _ _ => pg_name (i := 4) nd rfl (Or.inr rfl)) (fun _ _ _ _ _ => pts_nil)
      (fun _ _ _ _ _ => pe_callTy (call_tuple_ofK (K := K) rfl) (by rfl) X.tuple bt_tuple (pa_cons
        (pe_lc (own := [("cls", 5)]) (g := gName 5) (tt := tYes) rfl nd (pi_tupK (K := K) rfl (pe_ix (ix_tupK (K := K) rfl) (pv 0) pe_int (fun _ _ => rfl)))
          (blkOk_by (N := nWL) (sc := relS (lcScope (retE ((defBody sWebLabels).getD 2 (.Pass ⟨0, 0, 0, 0⟩)))) (defScope sWebLabels)) (by decide +kernel))
          (fun _ _ _ _ _ => pg_name (i := 5) nd rfl (Or.inl rfl)) (fun _ _ _ _ _ => pts_nil)
          (fun _ _ _ _ _ => pe_dget2 hu (pv 4) (pv 5) pe_non ⟨rfl, rfl, rfl, rfl⟩)) pa_nil)))))), ?_⟩
  obtain ⟨ca, tt, qs, hta, hca, htt, hqs⟩ := id hT
  obtain ⟨us, hwa, hus⟩ := hW
  have h6 : (1000 : Nat) < sizeLine := by decide
  have hul : us.length = ws.length := Paired.length hus
  refine ⟨Nat.zero_le _, fun sp hsp => ?_⟩
  have s0 : Same H (upd H sp (.lst [])) := Same.upd hsp _
  refine ⟨_, rfl, wa, rfl, ⟨_, SqT.of (s0 _ _ hwa)⟩, for_tup (K := K) (a := wa) (xs := us.map V.ref) (fun i σ H' => ∃ (st : List (Lab Str)) (v : Option V), σ = [some (.ref ta), some (.ref wa), some (.ref sp), v, none, none] ∧ Same H H' ∧ StAt H' sp st ∧ M50.StNn st ∧ st.length = i ∧ M50.webLabels T (ws.drop i) st = M50.webLabels T ws [])
    ⟨[], none, rfl, s0, ⟨[], upd_same, .nil⟩, (fun _ z => nomatch z), rfl, rfl⟩ (fun i σ H' _ ⟨_, _, _, z, _⟩ => SqT.of (z _ _ hwa)) ?_ ?_⟩
  · rintro i x σ H' hx ⟨st, v, rfl, g1, g2, g3, g4, g5⟩
    rw [List.getElem?_map] at hx
    obtain ⟨u, hui, rfl⟩ := Option.map_eq_some_iff.mp hx
    obtain ⟨t, hti, ht⟩ := Paired.at' hus hui
    have hlt : i < ws.length := (List.getElem?_eq_some_iff.mp hti).1
    have hdr : ws.drop i = t :: ws.drop (i + 1) := by
      rw [List.drop_eq_getElem_cons hlt, (List.getElem?_eq_some_iff.mp hti).2]
    rw [hdr] at g5
    obtain ⟨ls, hls, hL⟩ := id g2
    have hll : ls.length = st.length := Paired.length hL
    have := wok.many
    refine ⟨_, rfl, .inl ⟨rfl, _, SqL.of hls⟩, _, rfl, _, rfl, _, rfl, ta, u, sp, T, t, st, rfl, hT.same g1, ok, ht.same g1, wok.deep t (List.mem_of_getElem? hti), by rw [g4]; exact wok.pcs i t hti, g2, g3, fun p H2 s2 hp => ?_⟩
    have hls2 : H2 sp = some (.lst (ls.map V.ref)) := s2 _ _ hls
    refine ⟨sp, _, _, rfl, rfl, hls2, by rw [List.length_map]; omega, ?_⟩
    refine ⟨st ++ [M50.labelIn T t st], _, rfl, fun b o z => ?_, StAt.snoc hls2 (Paired.mapP hL fun _ _ z => s2 _ _ z) hp, g3.snoc (M50.labelIn_nn ok.ok g3 t), by rw [List.length_append, g4]; rfl, g5⟩
    rw [upd_ne (ne_of_none z hsp)]
    exact s2 _ _ (g1 _ _ z)
  · rintro σ H' ⟨st, v, rfl, g1, g2, g3, g4, g5⟩
    rw [List.length_map, hul, List.drop_length] at g5
    have g6 : st = M50.webLabels T ws [] := g5
    obtain ⟨ls, hls, hL⟩ := g2
    have hll : ls.length = st.length := Paired.length hL
    have hsl : st.length = ws.length := by rw [g4, List.length_map, hul]
    have wm := wok.many
    refine ⟨_, rfl, sp, rfl, ⟨_, SqL.of hls⟩, fun D hD => lc_list (K := K) (a := sp) (xs := ls.map V.ref) (fun i H2 => Same H' H2 ∧ ∃ rs : List Addr, H2 D = some (.lst (rs.map V.ref)) ∧ Paired (fun r l => H2 r = some (.tup (rowOf T l))) rs (st.take i))
      ⟨Same.upd hD _, [], upd_same, .nil⟩ (fun i H2 _ z => SqL.of (z.1 _ _ hls)) ?_ ?_⟩
    · rintro i x H2 hx ⟨s2, rs, hrs, hR⟩
      rw [List.getElem?_map] at hx
      obtain ⟨q, hqi, rfl⟩ := Option.map_eq_some_iff.mp hx
      obtain ⟨l, hli, hl⟩ := Paired.at' hL hqi
      have hrl : rs.length = (st.take i).length := Paired.length hR
      refine ⟨rfl, yesI ?_⟩
      have hl2 : LbAt H2 q l := s2 _ _ hl
      have s12 : Same H H2 := g1.trans s2
      refine ⟨_, rfl, ta, _, 0, _, rfl, rfl, SqT.of (s12 _ _ hta), at0, ca, rfl, ⟨_, (hca.same s12).sq⟩, fun D2 hD2 => lc_tup (tt := tYes) (K := K) (a := ca) (xs := T.classes.map V.str) (fun j H3 => Same H2 H3 ∧ H3 D2 = some (.lst ((T.classes.take j).map fun c => optV (M50.look l c))))
        ⟨Same.upd hD2 _, upd_same⟩ (fun j H3 _ z => (hca.same (s12.trans z.1)).sq) ?_ ?_⟩
      · rintro j y H3 hy ⟨s3, hD3⟩
        rw [List.getElem?_map] at hy
        obtain ⟨c, hcj, rfl⟩ := Option.map_eq_some_iff.mp hy
        refine ⟨rfl, yesI ?_⟩
        have hl3 : LbAt H3 q l := s3 _ _ hl2
        refine ⟨_, rfl, q, rfl, .inl ⟨_, .inl hl3⟩, _, rfl, _, lk_get hl3 c, _, hD3, ?_, fun b o z => ?_, ?_⟩
        · have := ok.few
          rw [List.length_map, List.length_take]
          omega
        · rw [upd_ne (ne_of_none z hD2)]
          exact s3 _ _ z
        · rw [upd_same, take_succ hcj, List.map_append, optV_eq]
          rfl
      · rintro H3 ⟨s3, hD3⟩
        rw [List.length_map, List.take_length] at hD3
        refine ⟨D2, _, rfl, .inl ⟨SqL.of hD3, fun r hr => ?_⟩⟩
        have s4 : Same H3 (upd H3 r (.tup (rowOf T l))) := Same.upd hr _
        have hDD : upd H3 r (.tup (rowOf T l)) D = some (.lst (rs.map V.ref)) := s4 _ _ (s3 _ _ hrs)
        have ntup : ∀ b xs, upd H3 r (.tup (rowOf T l)) b = some (.tup xs) → b ≠ D := fun b xs z => ne_of z hDD fun z' => nomatch z'
        refine ⟨_, hDD, ?_, fun b o z => ?_, rs ++ [r], ?_, ?_⟩
        · rw [List.length_map, hrl, List.length_take]
          omega
        · rw [upd_ne (ne_of_none z hD)]
          exact s4 _ _ (s3 _ _ (s2 _ _ z))
        · rw [upd_same, List.map_append]
          rfl
        · rw [take_succ hli]
          refine Paired.snoc (Paired.mapP hR fun a b z => ?_) ?_
          · have z2 := s4 _ _ (s3 _ _ z)
            exact (upd_ne (ntup _ _ z2)).trans z2
          · have z2 : upd H3 r (.tup (rowOf T l)) r = some (.tup (rowOf T l)) := upd_same
            exact (upd_ne (ntup _ _ z2)).trans z2
    · rintro H2 ⟨s2, rs, hrs, hR⟩
      rw [List.length_map, hll, List.take_length, g6] at hR
      exact k D H2 (g1.trans s2) (g1.free hD) ⟨rs, hrs, hR⟩
end
end K50

/-! front_price. -/
namespace K50
open PySem PySem.Spec PyProof.Rows L2
open M50 (Tr Pt Tb Tile Sg Lab)

def optS : Option Str → V
  | none => .non
  | some c => .str c
abbrev FrAt (H : Hp) (a : Addr) (f : List (Option Str)) : Prop := H a = some (.tup (f.map optS))
theorem go_none {T : Tb Str} {f : List (Option Str)} {t : Tr Str} {ws : List (Tr Str)} {st : List (Lab Str)} {tot : Int} (h : f[st.length]? = none) : M50.frontGo T f (t :: ws) st tot = M50.frontGo T f ws (st ++ [M50.freeLab T]) tot := by
  conv => lhs; unfold M50.frontGo
  rw [h]
theorem go_anew {T : Tb Str} {f : List (Option Str)} {t : Tr Str} {ws : List (Tr Str)} {st : List (Lab Str)} {tot : Int} (h : f[st.length]? = some none) : M50.frontGo T f (t :: ws) st tot = M50.frontGo T f ws (st ++ [M50.labelIn T t st]) tot := by
  conv => lhs; unfold M50.frontGo
  rw [h]
theorem go_kept {T : Tb Str} {f : List (Option Str)} {t : Tr Str} {ws : List (Tr Str)} {st : List (Lab Str)} {tot : Int} {c : Str} (h : f[st.length]? = some (some c)) : M50.frontGo T f (t :: ws) st tot = match M50.look (M50.labelIn T t st) c with
    | none => none
    | some v => M50.frontGo T f ws (st ++ [M50.passed T [(c, 0)]]) (tot + v) := by
  conv => lhs; unfold M50.frontGo
  rw [h] <;> rfl

section
variable {P : Program} {w : World} {K : PySem.W.Frag} {mg : Str → Option Value} {base : Heap}
def spFront : Sp := fun vs H Q _ => ∃ (ta wa ga fa : Addr) (T : Tb Str) (ws : List (Tr Str)) (gs : List (Nat × Str)) (f : List (Option Str)), vs = [.ref ta, .ref wa, .ref ga, .ref fa] ∧ TbAt H ta T ∧ TOk T ∧ WbAt H wa ws ∧ WOk ws ∧ GlAt H ga gs ∧ (∀ g ∈ gs, g.1 < ws.length) ∧ FrAt H fa f ∧
  ∀ H' : Hp, Same H H' → Q (optV (M50.frontPrice T ws gs f)) H'
theorem scFront : FnScope ["table", "web", "goals", "front", "stand", "total", "number", "tree", "label", "cls", "asked"] ["table", "web", "goals", "front"] (defScope sFront) := ⟨rfl, rfl, rfl, by decide +kernel, rfl, by decide +kernel, by decide +kernel⟩
theorem ok_front {f fl ff fp fg : Addr} {fd dl df dp dg : FuncData} (F : Fun K "front_price" "front_price" sFront f fd) (X : Txt K w mg)
    (L : FnOk P w K mg base CX0 5 fl dl ["table", "tree", "stand"] spLabelIn) (bL : Binds K dl ["table", "tree", "stand"] []) (kL : PySem.W.keepIn K (.ref fl) = true) (mL : mg "label_in" = some (.ref fl))
    (Fr : FnOk P w K mg base CX0 1 ff df ["table"] spFree) (bF : Binds K df ["table"] []) (kF : PySem.W.keepIn K (.ref ff) = true) (mF : mg "free_label" = some (.ref ff))
    (Pa : FnOk P w K mg base CX0 2 fp dp ["table", "label"] spPassed) (bP : Binds K dp ["table", "label"] []) (kP : PySem.W.keepIn K (.ref fp) = true) (mP : mg "passed" = some (.ref fp))
    (G : FnOk P w K mg base CX0 1 fg dg ["stand", "goals"] spGoals) (bG : Binds K dg ["stand", "goals"] []) (kG : PySem.W.keepIn K (.ref fg) = true) (mG : mg "goals_price" = some (.ref fg)) :
    FnOk P w K mg base CX0 6 f fd ["table", "web", "goals", "front"] spFront := by
  refine F.ok scFront (fun vs H Q E h => ?_) (fun cdv A outer s H vs Q E hr h => ?_)
  · obtain ⟨ta, wa, ga, fa, T, ws, gs, fr, rfl, _⟩ := h
    rfl
  obtain ⟨ta, wa, ga, fa, T, ws, gs, fr, rfl, hT, ok, hW, wok, hG, hgs, hF, k⟩ := h
  have nd := scFront.nd
  have hu := hu_of hr
  have hr1 : Room 1 _ := hr.mono (by decide)
  have hr2 : Room 2 _ := hr.mono (by decide)
  refine ⟨_, pss_cons (ps_set (i := 4) nd rfl (Or.inl rfl) (pe_lst pa_nil))
    (pss_cons (ps_set (i := 5) nd rfl (Or.inl rfl) pe_int)
    (pss_cons (ps_for PassesOwn.never rfl (pi_enumT (by rfl) X.enumerate (pa_cons (pv 1) pa_nil)) (pg_tup rfl (pgs_cons (pg_name (i := 6) nd rfl (Or.inl rfl)) (pgs_cons (pg_name (i := 7) nd rfl (Or.inl rfl)) pgs_nil)))
      (pss_one (ps_if (pt_cmpR op_ge (pv 6) (pe_callB call_len_seq (by rfl) X.len PySem.boot_len (pa_cons (pv 3) pa_nil)) (nomark _))
        (pss_one (ps_expr (pe_bm PySem.F.plainAttrs_list PySem.F.slot_list_append PySem.F.type_list_append mt_append (pv 4) (pa_cons (pe_call Fr hr1 rfl mF kF bF .nil pass0 (pa_cons (pv 0) pa_nil)) pa_nil))))
        (pss_cons (ps_set (i := 8) nd rfl (Or.inl rfl) (pe_call L hr rfl mL kL bL .nil pass0 (pa_cons (pv 0) (pa_cons (pv 7) (pa_cons (pv 4) pa_nil)))))
        (pss_cons (ps_set (i := 9) nd rfl (Or.inl rfl) (pe_ix ix_tup (pv 3) (pv 6) (fun _ _ => rfl)))
        (pss_one (ps_if (pt_cmp (pc_isN (pv 9)))
          (pss_one (ps_expr (pe_bm PySem.F.plainAttrs_list PySem.F.slot_list_append PySem.F.type_list_append mt_append (pv 4) (pa_cons (pv 8) pa_nil))))
          (pss_one (ps_if (pt_cmp (pc_dnotin hu (pv 9) (pv 8))) (pss_one (ps_ret pe_non))
            (pss_cons (ps_set (i := 5) nd rfl (Or.inl rfl) (pe_op op_add (pv 5) (pe_dget hu (pv 8) (pv 9) (fun _ _ => rfl))))
            (pss_one (ps_expr (pe_bm PySem.F.plainAttrs_list PySem.F.slot_list_append PySem.F.type_list_append mt_append (pv 4) (pa_cons (pe_call Pa hr2 rfl mP kP bP .nil pass0 (pa_cons (pv 0) (pa_cons (pe_disp (pps_cons (pv 9) pe_int pps_nil) (by rfl) (by rfl) (fun z => by cases z) (by decide)) pa_nil))) pa_nil))))))))))))))
    (pss_cons (ps_set (i := 10) nd rfl (Or.inl rfl) (pe_call G hr1 rfl mG kG bG .nil pass0 (pa_cons (pv 4) (pa_cons (pv 2) pa_nil))))
    (pss_cons (ps_if (pt_cmp (pc_isN (pv 10))) (pss_one (ps_ret pe_non)) pss_nil)
    (pss_one (ps_ret (pe_op op_add (pv 5) (pv 10)))))))), ?_⟩
  obtain ⟨ca, tt, qs, hta, hca, htt, hqs⟩ := id hT
  obtain ⟨us, hwa, hus⟩ := hW
  have h6 : (1000 : Nat) < sizeLine := by decide
  have hul : us.length = ws.length := Paired.length hus
  have wm := wok.many
  refine ⟨Nat.zero_le _, fun sp hsp => ?_⟩
  have s0 : Same H (upd H sp (.lst [])) := Same.upd hsp _
  refine ⟨_, rfl, wa, _, rfl, SqT.of (s0 _ _ hwa), for_enumT (K := K) (a := wa) (xs := us.map V.ref) (fun i σ H' => ∃ (st : List (Lab Str)) (tot : Int) (v6 v7 v8 v9 v10 : Option V), σ = [some (.ref ta), some (.ref wa), some (.ref ga), some (.ref fa), some (.ref sp), some (.int tot), v6, v7, v8, v9, v10] ∧ Same H H' ∧ StAt H' sp st ∧ M50.StNn st ∧ st.length = i ∧
      M50.frontGo T fr (ws.drop i) st tot = M50.frontGo T fr ws [] 0)
    ⟨[], 0, none, none, none, none, none, rfl, s0, ⟨[], upd_same, .nil⟩, (fun _ z => nomatch z), rfl, rfl⟩ (fun i σ H' _ ⟨_, _, _, _, _, _, _, _, z, _⟩ => SqT.of (z _ _ hwa)) ?_ ?_⟩
  · rintro i x W σ H' hx ⟨st, tot, v6, v7, v8, v9, v10, rfl, g1, g2, g3, g4, g5⟩ hWn
    rw [List.getElem?_map] at hx
    obtain ⟨u, hui, rfl⟩ := Option.map_eq_some_iff.mp hx
    obtain ⟨t, hti, ht⟩ := Paired.at' hus hui
    have hlt : i < ws.length := (List.getElem?_eq_some_iff.mp hti).1
    have hdr : ws.drop i = t :: ws.drop (i + 1) := by
      rw [List.drop_eq_getElem_cons hlt, (List.getElem?_eq_some_iff.mp hti).2]
    rw [hdr] at g5
    obtain ⟨ls, hls, hL⟩ := id g2
    have hll : ls.length = st.length := Paired.length hL
    have sW : Same H' (upd H' W (.tup [.int (i : Nat), .ref u])) := Same.upd hWn _
    have s1 : Same H (upd H' W (.tup [.int (i : Nat), .ref u])) := g1.trans sW
    -- the end of a turn: a label is appended
    have fin : ∀ (H2 : Hp) (q : Addr) (l : Lab Str) (tot' : Int) (w6 w7 w8 w9 w10 : Option V), Same H H2 → Same (upd H' W (.tup [.int (i : Nat), .ref u])) H2 → LbAt H2 q l → M50.Nn l → M50.frontGo T fr (ws.drop (i + 1)) (st ++ [l]) tot' = M50.frontGo T fr ws [] 0 →
        ∃ (st' : List (Lab Str)) (tot2 : Int) (v6 v7 v8 v9 v10 : Option V), [some (V.ref ta), some (V.ref wa), some (V.ref ga), some (V.ref fa), some (V.ref sp), some (V.int tot'), w6, w7, w8, w9, w10] = [some (V.ref ta), some (V.ref wa), some (V.ref ga), some (V.ref fa), some (V.ref sp), some (V.int tot2), v6, v7, v8, v9, v10] ∧ Same H (upd H2 sp (.lst (ls.map V.ref ++ [.ref q]))) ∧ StAt (upd H2 sp (.lst (ls.map V.ref ++ [.ref q]))) sp st' ∧ M50.StNn st' ∧ st'.length = i + 1 ∧
          M50.frontGo T fr (ws.drop (i + 1)) st' tot2 = M50.frontGo T fr ws [] 0 := fun H2 q l tot' w6 w7 w8 w9 w10 a1 a2 a3 a4 a5 => by
      refine ⟨st ++ [l], tot', w6, w7, w8, w9, w10, rfl, fun b o z => ?_, StAt.snoc (a2 _ _ (sW _ _ hls)) (Paired.mapP hL fun _ _ z => a2 _ _ (sW _ _ z)) a3, g3.snoc a4, by rw [List.length_append, g4]; rfl, a5⟩
      rw [upd_ne (ne_of_none z hsp)]
      exact a1 _ _ z
    have hlz : (ls.map V.ref).length < sizeLine := by rw [List.length_map]; omega
    refine ⟨W, _, rfl, SqT.of upd_same, rfl, _, _, rfl, _, _, rfl, rfl, ?_⟩
    refine ⟨_, rfl, _, rfl, fa, _, rfl, .inr (SqT.of (s1 _ _ hF)), _, _, rfl, rfl, _, rfl, ?_⟩
    rw [List.length_map]
    by_cases hfi : fr.length ≤ i
    · refine ifY (decide_eq_true (by omega)) ?_
      refine ⟨_, rfl, .inl ⟨rfl, _, SqL.of (sW _ _ hls)⟩, _, rfl, ta, T, rfl, hT.same s1, ok, fun p H2 s2 np hp => ?_⟩
      refine ⟨sp, _, _, rfl, rfl, s2 _ _ (sW _ _ hls), hlz, ?_⟩
      refine fin H2 p _ tot _ _ _ _ _ (s1.trans s2) s2 hp (M50.free_nn T) ?_
      rw [go_none (by rw [g4]; exact List.getElem?_eq_none hfi)] at g5
      exact g5
    · refine ifN (decide_eq_false (by omega)) ?_
      have hfl : i < fr.length := by omega
      have hfe : fr[i]? = some fr[i] := List.getElem?_eq_getElem hfl
      refine ⟨_, rfl, _, rfl, _, rfl, ta, u, sp, T, t, st, rfl, hT.same s1, ok, ht.same s1, wok.deep t (List.mem_of_getElem? hti), by rw [g4]; exact wok.pcs i t hti, g2.same sW, g3, fun p H2 s2 hp => ?_⟩
      have s12 : Same H H2 := s1.trans s2
      refine ⟨_, rfl, _, rfl, fa, _, (i : Nat), _, rfl, rfl, SqT.of (s12 _ _ hF), atI_nat (by rw [List.getElem?_map, hfe]; rfl), ?_⟩
      have hnl := M50.labelIn_nn ok.ok g3 t
      cases ec : fr[i] with
      | none =>
        refine ⟨_, rfl, _, rfl, ifY (by decide) ?_⟩
        refine ⟨_, rfl, .inl ⟨rfl, _, SqL.of (s2 _ _ (sW _ _ hls))⟩, _, rfl, sp, _, _, rfl, rfl, s2 _ _ (sW _ _ hls), hlz, ?_⟩
        refine fin H2 p _ tot _ _ _ _ _ s12 s2 hp hnl ?_
        rw [go_anew (by rw [g4, hfe, ec])] at g5
        exact g5
      | some c =>
        rw [go_kept (c := c) (by rw [g4, hfe, ec])] at g5
        refine ⟨_, rfl, _, rfl, ifN (decF fun z => nomatch z) ?_⟩
        refine ⟨_, rfl, _, rfl, p, _, rfl, lk_get hp c, _, rfl, ?_⟩
        cases el : M50.look (M50.labelIn T t st) c with
        | none =>
          rw [el] at g5
          refine ifY rfl ?_
          have e : M50.frontPrice T ws gs fr = none := by
            unfold M50.frontPrice
            rw [← g5]
          have := k H2 s12
          rw [e] at this
          exact this
        | some v =>
          rw [el] at g5
          refine ifN rfl ?_
          refine ⟨_, rfl, _, rfl, _, rfl, p, .int v, rfl, (by have := lk_get hp c; rw [el] at this; exact this), _, _, rfl, rfl, ?_⟩
          refine ⟨_, rfl, .inl ⟨rfl, _, SqL.of (s2 _ _ (sW _ _ hls))⟩, _, rfl, fun d hd => ⟨_, rfl, upd_same, [(Sum.inr c, .int 0)], rfl, (by show 1 ≤ 15; decide), ?_⟩⟩
          have s3 : Same H2 (upd (upd H2 d (.dK [])) d (.dK (mergeK [] [(Sum.inr c, .int 0)]))) := by
            rw [upd_upd]
            exact Same.upd hd _
          refine ⟨ta, d, T, [(c, 0)], rfl, hT.same (s12.trans s3), ok, upd_same, M50.one_nn, by show 1 ≤ 200; decide, fun p2 H3 s4 np2 hp2 _ => ?_⟩
          refine ⟨sp, _, _, rfl, rfl, s4 _ _ (s3 _ _ (s2 _ _ (sW _ _ hls))), hlz, ?_⟩
          exact fin H3 p2 _ (tot + v) _ _ _ _ _ (s12.trans (s3.trans s4)) (s2.trans (s3.trans s4)) hp2 (M50.passed_nn ok.ok M50.one_nn) g5
  · rintro σ H' ⟨st, tot, v6, v7, v8, v9, v10, rfl, g1, g2, g3, g4, g5⟩
    rw [List.length_map, hul, List.drop_length] at g5
    have hsl : st.length = ws.length := by rw [g4, List.length_map, hul]
    have g6 : M50.frontGo T fr ws [] 0 = some (st, tot) := g5.symm
    refine ⟨_, rfl, _, rfl, sp, ga, st, gs, rfl, g2, hG.same g1, fun g hg => by rw [hsl]; exact hgs g hg, ?_⟩
    have kk := k H' g1
    unfold M50.frontPrice at kk
    rw [g6] at kk
    dsimp only at kk
    cases eg : M50.goalsPrice st gs 0 with
    | none =>
      rw [eg] at kk
      exact ⟨_, rfl, _, rfl, ifY (by decide) kk⟩
    | some a =>
      rw [eg] at kk
      exact ⟨_, rfl, _, rfl, ifN (decF fun z => nomatch z) ⟨_, rfl, _, rfl, _, _, rfl, rfl, kk⟩⟩
end
end K50

/-! The law's draws: _law_feed, _law_take, _law_unlike. -/
namespace K50
open PySem PySem.Spec PyProof.Rows L2
open M50 (Tr Pt Tb Tile Sg Lab)

theorem atI_of {α : Type} {xs : List α} {k : Int} {v : α} (h0 : 0 ≤ k) (h : xs[k.toNat]? = some v) : atI xs k = some v := by
  obtain ⟨n, rfl⟩ := Int.eq_ofNat_of_zero_le h0
  exact atI_nat h
/-- tuples, and what is told of its object, stand -/
structure Kp (H H' : Hp) : Prop where
  tup : Tups H H'
  frz : ∀ b o u, H b = some (.frz o u) → H' b = some (.frz o u)
theorem Kp.of {H H' : Hp} (s : Same H H') : Kp H H' := ⟨Same.tups s, fun b o u e => s _ _ e⟩
theorem Kp.trans {H H1 H2 : Hp} (a : Kp H H1) (b : Kp H1 H2) : Kp H H2 := ⟨fun c xs e => b.tup _ _ (a.tup _ _ e), fun c o u e => b.frz _ _ _ (a.frz _ _ _ e)⟩
theorem TuF.kp {H H' : Hp} {a : Addr} {xs : List V} (h : TuF H a xs) (s : Kp H H') : TuF H' a xs := by
  obtain ⟨o, e, r⟩ := h
  exact ⟨o, s.frz _ _ _ e, r⟩
theorem TlAt.kp {H H' : Hp} (s : Kp H H') {q : Addr} {tl : Tile Str} (h : TlAt H q tl) : TlAt H' q tl := by
  obtain ⟨pp, h1, h2⟩ := h
  exact ⟨pp, s.tup _ _ h1, h2.tups s.tup⟩
theorem TbAt.kp {H H' : Hp} (s : Kp H H') {a : Addr} {T : Tb Str} (h : TbAt H a T) : TbAt H' a T := by
  obtain ⟨c, t, qs, h1, h2, h3, h4⟩ := h
  exact ⟨c, t, qs, s.tup _ _ h1, h2.kp s, s.tup _ _ h3, Paired.mapP h4 fun _ _ z => z.kp s⟩
theorem WbAt.kp {H H' : Hp} (s : Kp H H') {a : Addr} {ws : List (Tr Str)} (h : WbAt H a ws) : WbAt H' a ws := by
  obtain ⟨qs, h1, h2⟩ := h
  exact ⟨qs, s.tup _ _ h1, Paired.mapP h2 fun _ _ z => z.tups s.tup⟩

/-- a feed: the digits left, the seed -/
def FeAt (H : Hp) (a : Addr) : Prop := ∃ d s : Int, H a = some (.lst [.int d, .int s]) ∧ 0 ≤ d ∧ 0 ≤ s ∧ s < 1000000000000
theorem FeAt.same {H H' : Hp} {a : Addr} (h : FeAt H a) (s : Same H H') : FeAt H' a := by
  obtain ⟨d, e, h1, r⟩ := h
  exact ⟨d, e, s _ _ h1, r⟩
/-- draws were taken from the feed at a, new things may have come -/
structure Fd (a : Addr) (H H' : Hp) : Prop where
  keep : ∀ b o, b ≠ a → H b = some o → H' b = some o
  feed : FeAt H' a
theorem Fd.kp {a : Addr} {H H' : Hp} (f : Fd a H H') (h : FeAt H a) : Kp H H' := by
  obtain ⟨d, s, e, _⟩ := h
  exact ⟨fun b xs z => f.keep _ _ (ne_of z e fun z' => nomatch z') z, fun b o u z => f.keep _ _ (ne_of z e fun z' => nomatch z') z⟩
theorem Fd.trans {a : Addr} {H H1 H2 : Hp} (f : Fd a H H1) (g : Fd a H1 H2) : Fd a H H2 := ⟨fun b o n z => g.keep _ _ n (f.keep _ _ n z), g.feed⟩
theorem Fd.of {a : Addr} {H H' : Hp} (h : FeAt H a) (s : Same H H') : Fd a H H' := ⟨fun b o _ z => s _ _ z, h.same s⟩
theorem Fd.refl {a : Addr} {H : Hp} (h : FeAt H a) : Fd a H H := ⟨fun _ _ _ z => z, h⟩
theorem FeAt.ne {H : Hp} {a p : Addr} (h : FeAt H a) (n : H p = none) : p ≠ a := by
  obtain ⟨d, s, e, _⟩ := h
  exact fun z => by rw [z, e] at n; cases n
/-- a new object changes -/
theorem Fd.upd {a p : Addr} {H H' : Hp} {o : HO} (f : Fd a H H') (h : FeAt H a) (n : H p = none) : Fd a H (L2.upd H' p o) := by
  have np := h.ne n
  refine ⟨fun b u nb z => ?_, ?_⟩
  · rw [upd_ne (ne_of_none z n)]
    exact f.keep _ _ nb z
  · obtain ⟨d, s, e, r⟩ := f.feed
    exact ⟨d, s, by rw [upd_ne (Ne.symm np)]; exact e, r⟩
theorem Fd.free {a p : Addr} {H H' : Hp} (f : Fd a H H') (h : FeAt H a) (n : H' p = none) : H p = none := by
  cases e : H p with
  | none => rfl
  | some o =>
    by_cases q : p = a
    · obtain ⟨d, s, e', _⟩ := f.feed
      rw [q, e'] at n
      cases n
    · rw [f.keep _ _ q e] at n
      cases n

section
variable {P : Program} {w : World} {K : PySem.W.Frag} {mg : Str → Option Value} {base : Heap}
/-! ### _law_feed -/
def spFeed (K : PySem.W.Frag) : Sp := fun vs H Q _ => ∃ (a : Addr) (ns : List Int) (k : Int), vs = [.ref a, .int k] ∧ SqL K H a (ns.map V.int) ∧ 0 ≤ k ∧ k ≤ 100 ∧
  ∀ (p : Addr) (H' : Hp), Same H H' → H p = none → FeAt H' p → Q (.ref p) H'
theorem scFeed : FnScope ["script", "k", "cell", "digits"] ["script", "k"] (defScope sFeed) := ⟨rfl, rfl, rfl, by decide +kernel, rfl, by decide +kernel, by decide +kernel⟩
theorem ok_feed {f : Addr} {fd : FuncData} (F : Fun K "_law_feed" "_law_feed" sFeed f fd) (X : Txt K w mg) : FnOk P w K mg base CX0 1 f fd ["script", "k"] (spFeed K) := by
  refine F.ok scFeed (fun vs H Q E h => ?_) (fun cdv A outer s H vs Q E hr h => ?_)
  · obtain ⟨a, ns, k, rfl, _⟩ := h
    rfl
  obtain ⟨a, ns, k, rfl, hS, k0, k1, q⟩ := h
  have nd := scFeed.nd
  refine ⟨_, pss_cons (ps_set (i := 2) nd rfl (Or.inl rfl) pe_int)
    (pss_cons (ps_if (pt_cmpR op_lt (pv 1) (pe_callB call_len_seq (by rfl) X.len PySem.boot_len (pa_cons (pv 0) pa_nil)) (nomark _))
      (pss_one (ps_set (i := 2) nd rfl (Or.inl rfl) (pe_ix ix_list (pv 0) (pv 1) (fun _ _ => rfl)))) pss_nil)
    (pss_cons (ps_set (i := 3) nd rfl (Or.inl rfl) pe_int)
    (pss_cons (ps_if (pt_cmpR op_ge (pv 2) (pe_op op_pow pe_int pe_int) (nomark _))
      (pss_one (ps_set (i := 3) nd rfl (Or.inl rfl) (pe_op op_sub (pv 2) (pe_op op_pow pe_int pe_int)))) pss_nil)
    (pss_one (ps_ret (pe_lst (pa_cons (pv 3) (pa_cons (pe_op op_add (pe_op op_add (pe_op op_mod (pe_op op_mul (pe_op op_mod (pv 2) pe_int) pe_int) pe_int) (pe_op op_mul pe_int (pv 1))) pe_int) pa_nil)))))))), ?_⟩
  have cp : CPow 10 18 := ⟨by decide, by decide, by decide⟩
  refine ⟨_, rfl, _, rfl, a, _, rfl, .inl hS, _, _, rfl, rfl, _, rfl, ?_⟩
  have fin : ∀ (c d : Int), 0 ≤ d → ∀ p : Addr, H p = none → Q (.ref p) (upd H p (.lst [.int d, .int (c % 2147483647 * 48271 % 2147483647 + 7 * k + 5)])) := fun c d hd p hp => by
    refine q p _ (Same.upd hp _) hp ⟨d, _, upd_same, hd, ?_, ?_⟩
    · have := Int.emod_nonneg (c % 2147483647 * 48271) (show (2147483647 : Int) ≠ 0 by decide)
      omega
    · have := Int.emod_lt_of_pos (c % 2147483647 * 48271) (show (0 : Int) < 2147483647 by decide)
      omega
  have mid : ∀ c : Int, (0 : Int) < 2147483647 ∧ CMul (c % 2147483647) 48271 := fun c => ⟨by decide, .inr ⟨by decide, by decide⟩⟩
  by_cases hk : k < ((ns.map V.int).length : Nat)
  · refine ifY (decide_eq_true hk) ?_
    have hk' : k.toNat < ns.length := by rw [List.length_map] at hk; omega
    have hat : atI (ns.map V.int) k = some (.int ns[k.toNat]) := atI_of k0 (by rw [List.getElem?_map, List.getElem?_eq_getElem hk']; rfl)
    refine ⟨_, rfl, _, rfl, a, _, _, _, rfl, rfl, hS, hat, ?_⟩
    generalize ns[k.toNat] = c
    refine ⟨_, rfl, 10, 18, rfl, rfl, cp, _, _, rfl, rfl, _, rfl, ?_⟩
    by_cases hc : 10 ^ (18 : Int).toNat ≤ c
    · refine ifY (decide_eq_true hc) ?_
      refine ⟨_, rfl, 10, 18, rfl, rfl, cp, _, _, rfl, rfl, ?_⟩
      refine ⟨_, rfl, _, rfl, _, _, rfl, rfl, (mid c).1, _, _, rfl, rfl, (mid c).2, _, _, rfl, rfl, (mid c).1, _, rfl, _, _, rfl, rfl, .inl ⟨by decide, by decide⟩, _, _, rfl, rfl, _, _, rfl, rfl, (by show 2 ≤ sizeLine; decide), fun p hp => ?_⟩
      exact fin _ _ (by omega) p hp
    · refine ifN (decide_eq_false hc) ?_
      refine ⟨_, rfl, _, rfl, _, _, rfl, rfl, (mid c).1, _, _, rfl, rfl, (mid c).2, _, _, rfl, rfl, (mid c).1, _, rfl, _, _, rfl, rfl, .inl ⟨by decide, by decide⟩, _, _, rfl, rfl, _, _, rfl, rfl, (by show 2 ≤ sizeLine; decide), fun p hp => ?_⟩
      exact fin _ _ (by decide) p hp
  · refine ifN (decide_eq_false hk) ?_
    refine ⟨_, rfl, 10, 18, rfl, rfl, cp, _, _, rfl, rfl, _, rfl, ifN (by decide) ?_⟩
    refine ⟨_, rfl, _, rfl, _, _, rfl, rfl, (mid 0).1, _, _, rfl, rfl, (mid 0).2, _, _, rfl, rfl, (mid 0).1, _, rfl, _, _, rfl, rfl, .inl ⟨by decide, by decide⟩, _, _, rfl, rfl, _, _, rfl, rfl, (by show 2 ≤ sizeLine; decide), fun p hp => ?_⟩
    exact fin _ _ (by decide) p hp

/-! ### _law_take -/
def spTake : Sp := fun vs H Q _ => ∃ (a : Addr) (m : Int), vs = [.ref a, .int m] ∧ FeAt H a ∧ 1 ≤ m ∧ m ≤ 4611686018427387904 ∧ ∀ (r : Int) (H' : Hp), Fd a H H' → 0 ≤ r → r < m → Q (.int r) H'
theorem scTake : FnScope ["feed", "many", "found"] ["feed", "many"] (defScope sTake) := ⟨rfl, rfl, rfl, by decide +kernel, rfl, by decide +kernel, by decide +kernel⟩
theorem ok_take {f : Addr} {fd : FuncData} (F : Fun K "_law_take" "_law_take" sTake f fd) : FnOk P w K mg base CX0 1 f fd ["feed", "many"] spTake := by
  refine F.ok scTake (fun vs H Q E h => ?_) (fun cdv A outer s H vs Q E hr h => ?_)
  · obtain ⟨a, m, rfl, _⟩ := h
    rfl
  obtain ⟨a, m, rfl, ⟨d, sd, hF, d0, s0, s1⟩, m1, m2, q⟩ := h
  have nd := scTake.nd
  refine ⟨_, pss_cons (ps_if (pt_cmpR op_gt (pe_ix ix_list (pv 0) pe_int (fun _ _ => rfl)) pe_int (nomark _))
      (pss_cons (ps_set (i := 2) nd rfl (Or.inl rfl) (pe_op op_mod (pe_ix ix_list (pv 0) pe_int (fun _ _ => rfl)) (pv 1)))
      (pss_cons (ps_asg (pe_op op_fdivW (pe_ix ix_list (pv 0) pe_int (fun _ _ => rfl)) (pv 1)) (pg_sub (pv 0) pe_int set_list))
      (pss_one (ps_ret (pv 2))))) pss_nil)
    (pss_cons (ps_asg (pe_op op_mod (pe_op op_add (pe_op op_mul (pe_ix ix_list (pv 0) pe_int (fun _ _ => rfl)) pe_int) pe_int) pe_int) (pg_sub (pv 0) pe_int set_list))
    (pss_one (ps_ret (pe_op op_mod (pe_op op_fdiv (pe_ix ix_list (pv 0) pe_int (fun _ _ => rfl)) pe_int) (pv 1))))), ?_⟩
  refine ⟨_, rfl, a, _, 0, _, rfl, rfl, SqL.of hF, at0, _, _, rfl, rfl, _, rfl, ?_⟩
  by_cases hd : 0 < d
  · refine ifY (decide_eq_true hd) ?_
    refine ⟨_, rfl, a, _, 0, _, rfl, rfl, SqL.of hF, at0, _, rfl, _, _, rfl, rfl, (by show 0 < m; omega), ?_⟩
    refine ⟨_, rfl, a, _, 0, _, rfl, rfl, SqL.of hF, at0, _, rfl, _, _, rfl, rfl, wide_div (by omega) (b := 63) (by omega) (by decide) (by decide), ?_⟩
    refine ⟨_, rfl, a, _, 0, 0, rfl, rfl, hF, rfl, ?_⟩
    refine ⟨_, rfl, q _ _ ⟨fun b o nb z => by rw [upd_ne nb]; exact z, d / m, sd, upd_same, Int.ediv_nonneg d0 (by omega), s0, s1⟩ (Int.emod_nonneg _ (by omega)) (Int.emod_lt_of_pos _ (by omega))⟩
  · refine ifN (decide_eq_false hd) ?_
    refine ⟨_, rfl, a, _, 1, _, rfl, rfl, SqL.of hF, at1, _, _, rfl, rfl, .inr ⟨by decide, by decide⟩, _, _, rfl, rfl, _, _, rfl, rfl, (by show (0 : Int) < 2147483647; decide), ?_⟩
    refine ⟨_, rfl, a, _, 1, 1, rfl, rfl, hF, rfl, ?_⟩
    have e0 := Int.emod_nonneg (sd * 69621 + 12345) (show (2147483647 : Int) ≠ 0 by decide)
    have e1 := Int.emod_lt_of_pos (sd * 69621 + 12345) (show (0 : Int) < 2147483647 by decide)
    refine ⟨_, rfl, a, _, 1, _, rfl, rfl, SqL.of upd_same, at1, _, _, rfl, rfl, ⟨by decide, by decide⟩, _, rfl, _, _, rfl, rfl, (by show 0 < m; omega), ?_⟩
    exact q _ _ ⟨fun b o nb z => by rw [upd_ne nb]; exact z, d, _, upd_same, d0, e0, by omega⟩ (Int.emod_nonneg _ (by omega)) (Int.emod_lt_of_pos _ (by omega))
end
end K50

/-! The law's draws: _law_unlike, _law_inner, _law_pattern. -/
namespace K50
open PySem PySem.Spec PyProof.Rows L2
open M50 (Tr Pt Tb Tile Sg Lab)

abbrev abc : Str := "abcdefghijklmnopqrstuvwxyz"
theorem abc_len : abc.cps.toList.length = 26 := by decide +kernel
theorem abc_len2 : abc.length ≤ sizeLine := by decide +kernel
theorem abc_at {i : Int} (h0 : 0 ≤ i) (h1 : i < 26) : ∃ c, atI abc.cps.toList i = some c :=
  ⟨_, atI_of h0 (List.getElem?_eq_getElem (by rw [abc_len]; omega))⟩
theorem step_at {r : Int} (h0 : 0 ≤ r) (h1 : r < 6) : ∃ v : Int, atI [V.int 1, .int 3, .int 5, .int 7, .int 9, .int 11] r = some (.int v) ∧ 1 ≤ v ∧ v ≤ 11 := by
  have : r = 0 ∨ r = 1 ∨ r = 2 ∨ r = 3 ∨ r = 4 ∨ r = 5 := by omega
  rcases this with e | e | e | e | e | e <;> subst e
  · exact ⟨1, atI_of (by decide) rfl, by decide, by decide⟩
  · exact ⟨3, atI_of (by decide) rfl, by decide, by decide⟩
  · exact ⟨5, atI_of (by decide) rfl, by decide, by decide⟩
  · exact ⟨7, atI_of (by decide) rfl, by decide, by decide⟩
  · exact ⟨9, atI_of (by decide) rfl, by decide, by decide⟩
  · exact ⟨11, atI_of (by decide) rfl, by decide, by decide⟩
theorem strApp (x y : Str) : (x ++ y).length = x.length + y.length := by
  show (x.cps ++ y.cps).size = _
  rw [Array.size_append]
  rfl

section
variable {P : Program} {w : World} {K : PySem.W.Frag} {mg : Str → Option Value} {base : Heap}
/-! ### _law_unlike -/
def spUnlike : Sp := fun vs H Q _ => ∃ (a : Addr) (m : Int), vs = [.ref a, .int m] ∧ FeAt H a ∧ 0 ≤ m ∧ m ≤ 100 ∧
  ∀ (p : Addr) (xs : List Str) (H' : Hp), Fd a H H' → H p = none → xs.length = m.toNat → H' p = some (.lst (xs.map V.str)) → Q (.ref p) H'
abbrev nUn : List Str := ["feed", "many", "letters", "filler", "first", "step", "size", "place", "back", "k"]
theorem scUn : FnScope nUn ["feed", "many"] (defScope sUnlike) := ⟨rfl, rfl, rfl, by decide +kernel, rfl, by decide +kernel, by decide +kernel⟩
theorem ok_unlike {f g : Addr} {fd gd : FuncData} (F : Fun K "_law_unlike" "_law_unlike" sUnlike f fd) (X : Txt K w mg)
    (G : FnOk P w K mg base CX0 1 g gd ["feed", "many"] spTake) (bG : Binds K gd ["feed", "many"] []) (kG : PySem.W.keepIn K (.ref g) = true) (mG : mg "_law_take" = some (.ref g)) :
    FnOk P w K mg base CX0 2 f fd ["feed", "many"] spUnlike := by
  refine F.ok scUn (fun vs H Q E h => ?_) (fun cdv A outer s H vs Q E hr h => ?_)
  · obtain ⟨a, m, rfl, _⟩ := h
    rfl
  obtain ⟨a, m, rfl, hF, m0, m1, q⟩ := h
  have nd := scUn.nd
  refine ⟨_, pss_cons (ps_set (i := 2) nd rfl (Or.inr rfl) pe_str)
    (pss_cons (ps_set (i := 3) nd rfl (Or.inr rfl) (pe_ix ix_str (pv 2) (pe_call G hr rfl mG kG bG .nil pass0 (pa_cons (pv 0) (pa_cons pe_int pa_nil))) (fun _ _ => rfl)))
    (pss_cons (ps_set (i := 4) nd rfl (Or.inr rfl) (pe_call G hr rfl mG kG bG .nil pass0 (pa_cons (pv 0) (pa_cons pe_int pa_nil))))
    (pss_cons (ps_set (i := 5) nd rfl (Or.inr rfl) (pe_ix ix_list (pe_lst (pa_cons pe_int (pa_cons pe_int (pa_cons pe_int (pa_cons pe_int (pa_cons pe_int (pa_cons pe_int pa_nil))))))) (pe_call G hr rfl mG kG bG .nil pass0 (pa_cons (pv 0) (pa_cons pe_int pa_nil))) (fun _ _ => rfl)))
    (pss_cons (ps_set (i := 6) nd rfl (Or.inl rfl) (pe_op op_add pe_int (pe_call G hr rfl mG kG bG .nil pass0 (pa_cons (pv 0) (pa_cons pe_int pa_nil)))))
    (pss_cons (ps_set (i := 7) nd rfl (Or.inr rfl) (pe_call G hr rfl mG kG bG .nil pass0 (pa_cons (pv 0) (pa_cons (pv 6) pa_nil))))
    (pss_cons (ps_set (i := 8) nd rfl (Or.inr rfl) (pe_op op_mulStr (pv 3) (pe_op op_sub (pe_op op_sub (pv 6) pe_int) (pv 7))))
    (pss_one (ps_ret (pe_lc (own := [("k", 9)]) (g := gName 9) (tt := tYes) rfl nd (pi_range1 (by rfl) X.range (pa_cons (pv 1) pa_nil)) (blkOk_by (N := nUn) (sc := defScope sUnlike) (by decide +kernel))
      (fun _ _ _ _ _ => pg_name (i := 9) nd rfl (Or.inl rfl)) (fun _ _ _ _ _ => pts_nil)
      (fun _ _ _ _ _ => pe_op op_add_str (pe_op op_add_str (pe_op op_mulStr (pv 3) (pv 7)) (pe_ix ix_str (pv 2) (pe_op op_mod (pe_op op_add (pv 4) (pe_op op_mul (pv 5) (pv 9))) pe_int) (fun _ _ => rfl))) (pv 8))))))))))), ?_⟩
  refine ⟨_, rfl, _, rfl, a, 26, rfl, hF, by decide, by decide, fun r1 H1 f1 r10 r11 => ?_⟩
  obtain ⟨c1, hc1⟩ := abc_at r10 r11
  refine ⟨abc, r1, c1, rfl, rfl, abc_len2, hc1, ?_⟩
  refine ⟨_, rfl, a, 26, rfl, f1.feed, by decide, by decide, fun r2 H2 f2 r20 r21 => ?_⟩
  refine ⟨by show 6 ≤ sizeLine; decide, fun l hl => ?_⟩
  have nla : l ≠ a := f2.feed.ne hl
  have f2' : Fd a H2 (upd H2 l (.lst [.int 1, .int 3, .int 5, .int 7, .int 9, .int 11])) := Fd.of f2.feed (Same.upd hl _)
  refine ⟨_, rfl, a, 6, rfl, f2'.feed, by decide, by decide, fun r3 H3 f3 r30 r31 => ?_⟩
  obtain ⟨sv, hsv, sv0, sv1⟩ := step_at r30 r31
  refine ⟨l, _, r3, _, rfl, rfl, SqL.of (f3.keep _ _ nla upd_same), hsv, ?_⟩
  refine ⟨_, rfl, a, 8, rfl, f3.feed, by decide, by decide, fun r4 H4 f4 r40 r41 => ⟨_, _, rfl, rfl, ?_⟩⟩
  refine ⟨_, rfl, _, rfl, a, _, rfl, f4.feed, by omega, by omega, fun r5 H5 f5 r50 r51 => ?_⟩
  refine ⟨_, rfl, _, rfl, _, _, rfl, rfl, _, rfl, _, _, rfl, rfl, ⟨#[c1]⟩, _, rfl, rfl, by omega, by omega, Nat.le_refl 1, fun bk hbk => ?_⟩
  have fAll : Fd a H H5 := f1.trans (f2.trans (f2'.trans (f3.trans (f4.trans f5))))
  refine ⟨_, rfl, m, rfl, by omega, by omega, fun D hD => lc_range (lo := 0) (n := m.toNat) (fun i H' => ∃ xs : List Str, xs.length = i ∧ Same H5 H' ∧ H' D = some (.lst (xs.map V.str)))
    ⟨[], rfl, Same.upd hD _, upd_same⟩ ?_ ?_⟩
  · rintro i H' hi ⟨xs, hx, g1, g2⟩
    refine ⟨rfl, yesI ?_⟩
    refine ⟨_, rfl, _, rfl, ⟨#[c1]⟩, r5, rfl, rfl, r50, by omega, Nat.le_refl 1, fun z hz => ?_⟩
    have e0 := Int.emod_nonneg (r2 + sv * (0 + (i : Int))) (show (26 : Int) ≠ 0 by decide)
    have e1 := Int.emod_lt_of_pos (r2 + sv * (0 + (i : Int))) (show (0 : Int) < 26 by decide)
    obtain ⟨c2, hc2⟩ := abc_at e0 e1
    have one : (Str.mk #[c2]).length = 1 := rfl
    have h6 : (1000 : Nat) < sizeLine := by decide
    refine ⟨_, rfl, _, rfl, _, rfl, _, rfl, _, _, rfl, rfl, .inl ⟨by omega, by omega⟩, _, _, rfl, rfl, _, _, rfl, rfl, (by show (0 : Int) < 26; decide), abc, _, c2, rfl, rfl, abc_len2, hc2, ?_⟩
    refine ⟨z, ⟨#[c2]⟩, rfl, rfl, by omega, ?_⟩
    refine ⟨_, rfl, _, bk, rfl, rfl, by rw [strApp]; omega, ?_⟩
    refine ⟨_, g2, by rw [List.length_map]; omega, xs ++ [z ++ ⟨#[c2]⟩ ++ bk], by rw [List.length_append, hx]; rfl, fun b o y => ?_, ?_⟩
    · rw [upd_ne (ne_of_none y hD)]
      exact g1 _ _ y
    · rw [upd_same, List.map_append]
      rfl
  · rintro H' ⟨xs, hx, g1, g2⟩
    exact q D xs H' (fAll.trans (Fd.of fAll.feed g1)) (fAll.free hF hD) hx g2
end
end K50

/-! The law's draws: _law_inner, _law_pattern. -/
namespace K50
open PySem PySem.Spec PyProof.Rows L2
open M50 (Tr Pt Tb Tile Sg Lab)

theorem sign3 {r : Int} (h0 : 0 ≤ r) (h1 : r < 3) : ∃ s : Sg, atI [V.str "sum", .str "less", .str "by"] r = some (.str (sgS s)) := by
  have : r = 0 ∨ r = 1 ∨ r = 2 := by omega
  rcases this with e | e | e <;> subst e
  · exact ⟨.sum, atI_of (by decide) rfl⟩
  · exact ⟨.less, atI_of (by decide) rfl⟩
  · exact ⟨.mul, atI_of (by decide) rfl⟩
theorem sign5 {r : Int} (h0 : 0 ≤ r) (h1 : r < 5) : ∃ s : Sg, atI [V.str "sum", .str "less", .str "by", .str "sum", .str "by"] r = some (.str (sgS s)) := by
  have : r = 0 ∨ r = 1 ∨ r = 2 ∨ r = 3 ∨ r = 4 := by omega
  rcases this with e | e | e | e | e <;> subst e
  · exact ⟨.sum, atI_of (by decide) rfl⟩
  · exact ⟨.less, atI_of (by decide) rfl⟩
  · exact ⟨.mul, atI_of (by decide) rfl⟩
  · exact ⟨.sum, atI_of (by decide) rfl⟩
  · exact ⟨.mul, atI_of (by decide) rfl⟩
theorem decT {x y : V} (h : x = y) : decide (x = y) = true := decide_eq_true h
theorem at_map {cs : List Str} {r : Int} (h0 : 0 ≤ r) (h1 : r < (cs.length : Nat)) : ∃ c ∈ cs, atI (cs.map V.str) r = some (.str c) := by
  have h2 : r.toNat < cs.length := by omega
  exact ⟨cs[r.toNat], List.getElem_mem h2, atI_of h0 (by rw [List.getElem?_map, List.getElem?_eq_getElem h2]; rfl)⟩

section
variable {P : Program} {w : World} {K : PySem.W.Frag} {mg : Str → Option Value} {base : Heap}
/-! ### _law_inner -/
def spInner (n : Nat) : Sp := fun vs H Q _ => ∃ (a c : Addr) (cs : List Str) (d : Int), vs = [.ref a, .ref c, .int d] ∧ FeAt H a ∧ TuF H c (cs.map V.str) ∧ cs ≠ [] ∧ cs.length ≤ 100 ∧ 0 ≤ d ∧ d < n ∧
  ∀ (p : Pt Str) (q : Addr) (H' : Hp), Fd a H H' → PtAt H' p q → pdep p ≤ d.toNat + 1 → Q (.ref q) H'
theorem scInner : FnScope ["feed", "classes", "deep", "way", "low", "sign"] ["feed", "classes", "deep"] (defScope sInner) := ⟨rfl, rfl, rfl, by decide +kernel, rfl, by decide +kernel, by decide +kernel⟩
theorem ok_inner1 {n : Nat} {f g : Addr} {fd gd : FuncData} (F : Fun K "_law_inner" "_law_inner" sInner f fd) (X : Txt K w mg) (bF : Binds K fd ["feed", "classes", "deep"] []) (mF : mg "_law_inner" = some (.ref f))
    (G : FnOk P w K mg base CX0 1 g gd ["feed", "many"] spTake) (bG : Binds K gd ["feed", "many"] []) (kG : PySem.W.keepIn K (.ref g) = true) (mG : mg "_law_take" = some (.ref g))
    (R : FnOk P w K mg base CX0 (n + 1) f fd ["feed", "classes", "deep"] (spInner n)) : FnOk P w K mg base CX0 (n + 2) f fd ["feed", "classes", "deep"] (spInner (n + 1)) := by
  refine F.ok scInner (fun vs H Q E h => ?_) (fun cdv A outer s H vs Q E hr h => ?_)
  · obtain ⟨a, c, cs, d, rfl, _⟩ := h
    rfl
  obtain ⟨a, c, cs, d, rfl, hF, hC, cne, clen, d0, dn, q⟩ := h
  have nd := scInner.nd
  have hr1 : Room 1 _ := hr.mono (Nat.le_add_left 1 n)
  refine ⟨_, pss_cons (ps_set (i := 3) nd rfl (Or.inl rfl) (pe_call G hr1 rfl mG kG bG .nil pass0 (pa_cons (pv 0) (pa_cons pe_int pa_nil))))
    (pss_cons (ps_if (pt_cmpR op_eq (pv 3) pe_int (nomark _)) (pss_one (ps_ret (pe_tup (pa_cons pe_str pa_nil)))) pss_nil)
    (pss_cons (ps_if (pt_cmpR op_eq (pv 3) pe_int (nomark _)) (pss_cons (ps_set (i := 4) nd rfl (Or.inl rfl) (pe_call G hr1 rfl mG kG bG .nil pass0 (pa_cons (pv 0) (pa_cons pe_int pa_nil))))
      (pss_one (ps_ret (pe_tup (pa_cons pe_str (pa_cons (pv 4) (pa_cons (pe_op op_add (pv 4) (pe_call G hr1 rfl mG kG bG .nil pass0 (pa_cons (pv 0) (pa_cons pe_int pa_nil)))) pa_nil))))))) pss_nil)
    (pss_cons (ps_if (PW.pt (pw_or (pt_cmpR op_eq (pv 2) pe_int (nomark _)) (pw_or1 (pt_cmpR op_lt (pv 3) pe_int (nomark _)))))
      (pss_one (ps_ret (pe_tup (pa_cons pe_str (pa_cons (pe_ix ix_tup (pv 1) (pe_call G hr1 rfl mG kG bG .nil pass0 (pa_cons (pv 0) (pa_cons (pe_callB call_len_seq (by rfl) X.len PySem.boot_len (pa_cons (pv 1) pa_nil)) pa_nil))) (fun _ _ => rfl)) pa_nil))))) pss_nil)
    (pss_cons (ps_if (pt_cmpR op_eq (pv 3) pe_int (nomark _)) (pss_one (ps_ret (pe_tup (pa_cons pe_str (pa_cons (pe_call R hr rfl mF F.kp bF .nil pass0 (pa_cons (pv 0) (pa_cons (pv 1) (pa_cons (pe_op op_sub (pv 2) pe_int) pa_nil)))) pa_nil))))) pss_nil)
    (pss_cons (ps_set (i := 5) nd rfl (Or.inl rfl) (pe_ix ix_list (pe_lst (pa_cons pe_str (pa_cons pe_str (pa_cons pe_str pa_nil)))) (pe_call G hr1 rfl mG kG bG .nil pass0 (pa_cons (pv 0) (pa_cons pe_int pa_nil))) (fun _ _ => rfl)))
    (pss_one (ps_ret (pe_tup (pa_cons (pv 5) (pa_cons (pe_call R hr rfl mF F.kp bF .nil pass0 (pa_cons (pv 0) (pa_cons (pv 1) (pa_cons (pe_op op_sub (pv 2) pe_int) pa_nil)))) (pa_cons (pe_call R hr rfl mF F.kp bF .nil pass0 (pa_cons (pv 0) (pa_cons (pv 1) (pa_cons (pe_op op_sub (pv 2) pe_int) pa_nil)))) pa_nil))))))))))), ?_⟩
  refine ⟨_, rfl, a, 10, rfl, hF, by decide, by decide, fun way H1 f1 w0 w1 => ?_⟩
  have hC1 := hC.kp (f1.kp hF)
  refine ⟨_, rfl, rfl, _, rfl, ?_⟩
  by_cases e0 : way = 0
  · refine ifY (decT (by rw [e0])) ?_
    refine ⟨by show 1 ≤ sizeLine; decide, fun t ht => ?_⟩
    exact q .any t _ (f1.upd hF (f1.free hF ht)) upd_same (by unfold pdep; omega)
  refine ifN (decF fun z => e0 (V.int.inj z)) ?_
  refine ⟨_, rfl, rfl, _, rfl, ?_⟩
  by_cases e1 : way = 1
  · refine ifY (decT (by rw [e1])) ?_
    refine ⟨_, rfl, a, 4, rfl, f1.feed, by decide, by decide, fun low H2 f2 l0 l1 => ?_⟩
    refine ⟨_, rfl, _, rfl, _, rfl, a, 3, rfl, f2.feed, by decide, by decide, fun m H3 f3 m0 m1 => ⟨_, _, rfl, rfl, by show 3 ≤ sizeLine; decide, fun t ht => ?_⟩⟩
    have fA := f1.trans (f2.trans f3)
    exact q (.from_ low (low + m)) t _ (fA.upd hF (fA.free hF ht)) upd_same (by unfold pdep; omega)
  refine ifN (decF fun z => e1 (V.int.inj z)) ?_
  have hole : ∀ (H2 : Hp), Fd a H H2 → ∀ (r : Int), 0 ≤ r → r < (cs.length : Nat) → ∀ x ∈ cs, ∀ t, H2 t = none → Q (.ref t) (upd H2 t (.tup [.str "at", .str x])) := fun H2 f2 r _ _ x _ t ht =>
    q (.hole x) t _ (f2.upd hF (f2.free hF ht)) upd_same (by unfold pdep; omega)
  have cl1 : (1 : Int) ≤ ((cs.map V.str).length : Nat) := by
    rw [List.length_map]
    cases cs with
    | nil => exact absurd rfl cne
    | cons x r => rw [List.length_cons]; omega
  have cl2 : ((cs.map V.str).length : Nat) ≤ (100 : Int) := by rw [List.length_map]; omega
  refine ⟨_, rfl, rfl, _, rfl, ?_⟩
  by_cases e2 : d = 0
  · refine ifY (decT (by rw [e2])) (iteT ?_)
    refine ⟨_, rfl, _, rfl, _, rfl, c, _, rfl, .inr hC1.sq, a, _, rfl, f1.feed, cl1, by omega, fun r H2 f2 r0 r1 => ?_⟩
    rw [List.length_map] at r1
    obtain ⟨x, hx, hat⟩ := at_map r0 r1
    exact ⟨c, _, r, _, rfl, rfl, (hC1.kp (f2.kp f1.feed)).sq, hat, by show 2 ≤ sizeLine; decide, fun t ht => hole H2 (f1.trans f2) r r0 r1 x hx t ht⟩
  refine ifN (decF fun z => e2 (V.int.inj z)) ?_
  refine ⟨_, rfl, _, _, rfl, rfl, _, rfl, ?_⟩
  by_cases e3 : way < 7
  · refine ifY (decide_eq_true e3) ?_
    refine ⟨_, rfl, _, rfl, _, rfl, c, _, rfl, .inr hC1.sq, a, _, rfl, f1.feed, cl1, by omega, fun r H2 f2 r0 r1 => ?_⟩
    rw [List.length_map] at r1
    obtain ⟨x, hx, hat⟩ := at_map r0 r1
    exact ⟨c, _, r, _, rfl, rfl, (hC1.kp (f2.kp f1.feed)).sq, hat, by show 2 ≤ sizeLine; decide, fun t ht => hole H2 (f1.trans f2) r r0 r1 x hx t ht⟩
  refine ifN (decide_eq_false e3) ?_
  refine ⟨_, rfl, rfl, _, rfl, ?_⟩
  by_cases e4 : way = 7
  · refine ifY (decT (by rw [e4])) ?_
    refine ⟨_, rfl, _, rfl, _, rfl, _, _, rfl, rfl, a, c, cs, d - 1, rfl, f1.feed, hC1, cne, clen, by omega, by omega, fun p1 q1 H2 f2 hp1 hd1 => ⟨by show 2 ≤ sizeLine; decide, fun t ht => ?_⟩⟩
    have fA := f1.trans f2
    exact q (.turn p1) t _ (fA.upd hF (fA.free hF ht)) ⟨q1, upd_same, hp1.same (Same.upd ht _)⟩ (by unfold pdep; omega)
  refine ifN (decF fun z => e4 (V.int.inj z)) ?_
  refine ⟨by show 3 ≤ sizeLine; decide, fun l hl => ?_⟩
  have nla : l ≠ a := f1.feed.ne hl
  have s1 : Same H1 (upd H1 l (.lst [.str "sum", .str "less", .str "by"])) := Same.upd hl _
  have f1' := Fd.of f1.feed s1
  refine ⟨_, rfl, a, 3, rfl, f1'.feed, by decide, by decide, fun r H2 f2 r0 r1 => ?_⟩
  obtain ⟨sg, hsg⟩ := sign3 r0 r1
  refine ⟨l, _, r, _, rfl, rfl, SqL.of (f2.keep _ _ nla upd_same), hsg, ?_⟩
  have f12 : Fd a H1 H2 := f1'.trans f2
  have hC2 := hC1.kp (f12.kp f1.feed)
  refine ⟨_, rfl, _, rfl, _, rfl, _, rfl, _, _, rfl, rfl, a, c, cs, d - 1, rfl, f2.feed, hC2, cne, clen, by omega, by omega, fun p1 q1 H3 f3 hp1 hd1 => ?_⟩
  have hC3 := hC2.kp (f3.kp f2.feed)
  refine ⟨_, rfl, _, rfl, _, rfl, _, _, rfl, rfl, a, c, cs, d - 1, rfl, f3.feed, hC3, cne, clen, by omega, by omega, fun p2 q2 H4 f4 hp2 hd2 => ⟨by show 3 ≤ sizeLine; decide, fun t ht => ?_⟩⟩
  have fA := f1.trans (f12.trans (f3.trans f4))
  refine q (.bin sg p1 p2) t _ (fA.upd hF (fA.free hF ht)) ⟨q1, q2, upd_same, (hp1.tups (f4.kp f3.feed).tup).same (Same.upd ht _), hp2.same (Same.upd ht _)⟩ ?_
  have : Nat.max (pdep p1) (pdep p2) ≤ (d - 1).toNat + 1 := Nat.max_le.mpr ⟨hd1, hd2⟩
  unfold pdep
  omega
theorem ok_inner {f g : Addr} {fd gd : FuncData} (F : Fun K "_law_inner" "_law_inner" sInner f fd) (X : Txt K w mg) (bF : Binds K fd ["feed", "classes", "deep"] []) (mF : mg "_law_inner" = some (.ref f))
    (G : FnOk P w K mg base CX0 1 g gd ["feed", "many"] spTake) (bG : Binds K gd ["feed", "many"] []) (kG : PySem.W.keepIn K (.ref g) = true) (mG : mg "_law_take" = some (.ref g)) : ∀ n : Nat, FnOk P w K mg base CX0 (n + 1) f fd ["feed", "classes", "deep"] (spInner n)
  | 0 => by
    have no : ∀ vs H Q E, ¬ spInner 0 vs H Q E := fun vs H Q E h => by
      obtain ⟨a, c, cs, d, _, _, _, _, _, h0, h1, _⟩ := h
      omega
    exact ⟨fun vs H Q E h => absurd h (no vs H Q E), fun A outer s H args us vs Q E _ _ _ _ h => absurd h (no vs H Q E)⟩
  | n + 1 => ok_inner1 F X bF mF G bG kG mG (ok_inner F X bF mF G bG kG mG n)
end
end K50

/-! The law's draws: _law_pattern, _law_table. -/
namespace K50
open PySem PySem.Spec PyProof.Rows L2
open M50 (Tr Pt Tb Tile Sg Lab)

section
variable {P : Program} {w : World} {K : PySem.W.Frag} {mg : Str → Option Value} {base : Heap}
/-! ### _law_pattern -/
def spPattern : Sp := fun vs H Q _ => ∃ (a c : Addr) (cs : List Str) (x : Str), vs = [.ref a, .ref c, .str x] ∧ FeAt H a ∧ TuF H c (cs.map V.str) ∧ cs ≠ [] ∧ cs.length ≤ 100 ∧
  ∀ (p : Pt Str) (q : Addr) (H' : Hp), Fd a H H' → PtAt H' p q → pdep p ≤ 3 → Q (.ref q) H'
abbrev nPat : List Str := ["feed", "classes", "cls", "way", "others", "sign", "one"]
theorem scPat : FnScope nPat ["feed", "classes", "cls"] (defScope sPattern) := ⟨rfl, rfl, rfl, by decide +kernel, rfl, by decide +kernel, by decide +kernel⟩
theorem ok_pattern {f g fi : Addr} {fd gd di : FuncData} (F : Fun K "_law_pattern" "_law_pattern" sPattern f fd) (X : Txt K w mg)
    (G : FnOk P w K mg base CX0 1 g gd ["feed", "many"] spTake) (bG : Binds K gd ["feed", "many"] []) (kG : PySem.W.keepIn K (.ref g) = true) (mG : mg "_law_take" = some (.ref g))
    (R : FnOk P w K mg base CX0 3 fi di ["feed", "classes", "deep"] (spInner 2)) (bR : Binds K di ["feed", "classes", "deep"] []) (kR : PySem.W.keepIn K (.ref fi) = true) (mR : mg "_law_inner" = some (.ref fi)) :
    FnOk P w K mg base CX0 4 f fd ["feed", "classes", "cls"] spPattern := by
  refine F.ok scPat (fun vs H Q E h => ?_) (fun cdv A outer s H vs Q E hr h => ?_)
  · obtain ⟨a, c, cs, x, rfl, _⟩ := h
    rfl
  obtain ⟨a, c, cs, x, rfl, hF, hC, cne, clen, q⟩ := h
  have nd := scPat.nd
  have hr1 : Room 1 _ := hr.mono (by decide)
  refine ⟨_, pss_cons (ps_set (i := 3) nd rfl (Or.inl rfl) (pe_call G hr1 rfl mG kG bG .nil pass0 (pa_cons (pv 0) (pa_cons pe_int pa_nil))))
    (pss_cons (ps_setLc (i := 4) (own := [("one", 6)]) (g := gName 6) (tt := tTest (tOp rNe (tVar 6) (tVar 2))) rfl nd rfl rfl (sw_true rfl rfl rfl (by decide +kernel)) (pi_tup (pv 1)) (blkOk_by (N := nPat) (sc := defScope sPattern) (by decide +kernel))
      (fun _ _ _ _ _ => pg_name (i := 6) nd rfl (Or.inl rfl)) (fun _ _ _ _ _ => pts_one (pt_cmpR op_ne (pv 6) (pv 2) (nomark _))) (fun _ _ _ _ _ => pv 6))
    (pss_cons (ps_if (PW.pt (pw_and (pt_cmpR op_eq (pv 3) pe_int (nomark _)) (pw_and1 (pt_cmpR op_gt (pe_callB call_len_seq (by rfl) X.len PySem.boot_len (pa_cons (pv 4) pa_nil)) pe_int (nomark _)))))
      (pss_one (ps_ret (pe_tup (pa_cons pe_str (pa_cons (pe_ix ix_list (pv 4) (pe_call G hr1 rfl mG kG bG .nil pass0 (pa_cons (pv 0) (pa_cons (pe_callB call_len_seq (by rfl) X.len PySem.boot_len (pa_cons (pv 4) pa_nil)) pa_nil))) (fun _ _ => rfl)) pa_nil))))) pss_nil)
    (pss_cons (ps_if (pt_cmpR op_lt (pv 3) pe_int (nomark _)) (pss_one (ps_ret (pe_tup (pa_cons pe_str (pa_cons (pe_call R hr rfl mR kR bR .nil pass0 (pa_cons (pv 0) (pa_cons (pv 1) (pa_cons pe_int pa_nil)))) pa_nil))))) pss_nil)
    (pss_cons (ps_set (i := 5) nd rfl (Or.inl rfl) (pe_ix ix_list (pe_lst (pa_cons pe_str (pa_cons pe_str (pa_cons pe_str (pa_cons pe_str (pa_cons pe_str pa_nil)))))) (pe_op op_sub (pv 3) pe_int) (fun _ _ => rfl)))
    (pss_one (ps_ret (pe_tup (pa_cons (pv 5) (pa_cons (pe_call R hr rfl mR kR bR .nil pass0 (pa_cons (pv 0) (pa_cons (pv 1) (pa_cons pe_int pa_nil)))) (pa_cons (pe_call R hr rfl mR kR bR .nil pass0 (pa_cons (pv 0) (pa_cons (pv 1) (pa_cons pe_int pa_nil)))) pa_nil)))))))))), ?_⟩
  refine ⟨_, rfl, a, 7, rfl, hF, by decide, by decide, fun way H1 f1 w0 w1 => ?_⟩
  have hC1 := hC.kp (f1.kp hF)
  refine ⟨_, rfl, c, rfl, ⟨_, hC1.sq⟩, fun D hD => lc_tup (tt := tTest (tOp rNe (tVar 6) (tVar 2))) (K := K) (a := c) (xs := cs.map V.str) (fun i H' => Same H1 H' ∧ ∃ xs : List Str, xs.length ≤ i ∧ H' D = some (.lst (xs.map V.str)))
    ⟨Same.upd hD _, [], Nat.le_refl _, upd_same⟩ (fun i H' _ z => (hC1.same z.1).sq) ?_ ?_⟩
  · rintro i y H' hy ⟨s1, xs, hx, hDx⟩
    rw [List.getElem?_map] at hy
    obtain ⟨z, hz, rfl⟩ := Option.map_eq_some_iff.mp hy
    have hil : i < cs.length := (List.getElem?_eq_some_iff.mp hz).1
    have h6 : (1000 : Nat) < sizeLine := by decide
    refine ⟨rfl, _, rfl, _, rfl, rfl, _, rfl, ?_⟩
    refine ite2 (fun _ => ?_) (fun _ => ⟨s1, xs, by omega, hDx⟩)
    refine ⟨_, rfl, _, hDx, by rw [List.length_map]; omega, fun b o y => ?_, xs ++ [z], by rw [List.length_append, List.length_singleton]; omega, by rw [upd_same, List.map_append]; rfl⟩
    rw [upd_ne (ne_of_none y hD)]
    exact s1 _ _ y
  rintro H2 ⟨s1, xs, hx, hDx⟩
  have f2 : Fd a H H2 := f1.trans (Fd.of f1.feed s1)
  have hC2 := hC1.same s1
  have nDa : D ≠ a := f1.feed.ne hD
  have hxl : xs.length ≤ 100 := by rw [List.length_map] at hx; omega
  refine ⟨_, rfl, rfl, _, rfl, ?_⟩
  have hole : ∀ (r : Int) (H3 : Hp), Fd a H2 H3 → 0 ≤ r → r < (xs.length : Nat) → ∃ p ys i v, V.ref D = .ref p ∧ V.int r = .int i ∧ SqL K H3 p ys ∧ atI ys i = some v ∧ ([V.str "at", v].length ≤ sizeLine ∧ ∀ p, H3 p = none → Q (.ref p) (upd H3 p (.tup [.str "at", v]))) := fun r H3 f3 r0 r1 => by
    obtain ⟨z, _, hat⟩ := at_map r0 r1
    have fA := f2.trans f3
    exact ⟨D, _, r, _, rfl, rfl, SqL.of (f3.keep _ _ nDa hDx), hat, by show 2 ≤ sizeLine; decide, fun t ht => q (.hole z) t _ (fA.upd hF (fA.free hF ht)) upd_same (by unfold pdep; omega)⟩
  by_cases e0 : way = 0 ∧ 0 < xs.length
  · refine ifY (decT (by rw [e0.1])) ?_
    refine ⟨_, rfl, D, _, rfl, .inl (SqL.of hDx), _, _, rfl, rfl, _, rfl, ifY (decide_eq_true (by rw [List.length_map]; omega)) ?_⟩
    refine ⟨_, rfl, _, rfl, _, rfl, D, _, rfl, .inl (SqL.of hDx), a, _, rfl, f2.feed, by rw [List.length_map]; omega, by rw [List.length_map]; omega, fun r H3 f3 r0 r1 => ?_⟩
    rw [List.length_map] at r1
    exact hole r H3 f3 r0 r1
  by_cases e1 : way = 0
  case' pos =>
    refine ifY (decT (by rw [e1])) ?_
    refine ⟨_, rfl, D, _, rfl, .inl (SqL.of hDx), _, _, rfl, rfl, _, rfl, ifN (decide_eq_false (by rw [List.length_map]; omega)) ?_⟩
  case' neg => refine ifN (decF fun z => e1 (V.int.inj z)) ?_
  all_goals
    refine ⟨_, rfl, _, _, rfl, rfl, _, rfl, ?_⟩
    by_cases e2 : way < 2
    · refine ifY (decide_eq_true e2) ?_
      refine ⟨_, rfl, _, rfl, a, c, cs, 1, rfl, f2.feed, hC2, cne, clen, by decide, by decide, fun p1 q1 H3 f3 hp1 hd1 => ⟨by show 2 ≤ sizeLine; decide, fun t ht => ?_⟩⟩
      have fA := f2.trans f3
      refine q (.turn p1) t _ (fA.upd hF (fA.free hF ht)) ⟨q1, upd_same, hp1.same (Same.upd ht _)⟩ ?_
      have : (1 : Int).toNat = 1 := rfl
      unfold pdep
      omega
    · refine ifN (decide_eq_false e2) ?_
      refine ⟨by show 5 ≤ sizeLine; decide, fun l hl => ?_⟩
      have s2 : Same H2 (upd H2 l (.lst [.str "sum", .str "less", .str "by", .str "sum", .str "by"])) := Same.upd hl _
      obtain ⟨sg, hsg⟩ := sign5 (r := way - 2) (by omega) (by omega)
      refine ⟨_, rfl, _, _, rfl, rfl, l, _, way - 2, _, rfl, rfl, SqL.of upd_same, hsg, ?_⟩
      have f3 := Fd.of f2.feed s2
      have hC3 := hC2.same s2
      refine ⟨_, rfl, _, rfl, _, rfl, a, c, cs, 1, rfl, f3.feed, hC3, cne, clen, by decide, by decide, fun p1 q1 H4 f4 hp1 hd1 => ?_⟩
      have hC4 := hC3.kp (f4.kp f3.feed)
      refine ⟨_, rfl, _, rfl, a, c, cs, 1, rfl, f4.feed, hC4, cne, clen, by decide, by decide, fun p2 q2 H5 f5 hp2 hd2 => ⟨by show 3 ≤ sizeLine; decide, fun t ht => ?_⟩⟩
      have fA := f2.trans (f3.trans (f4.trans f5))
      refine q (.bin sg p1 p2) t _ (fA.upd hF (fA.free hF ht)) ⟨q1, q2, upd_same, (hp1.tups (f5.kp f4.feed).tup).same (Same.upd ht _), hp2.same (Same.upd ht _)⟩ ?_
      have e : (1 : Int).toNat = 1 := rfl
      have : Nat.max (pdep p1) (pdep p2) ≤ 2 := Nat.max_le.mpr ⟨by omega, by omega⟩
      unfold pdep
      omega

/-! ### _law_table -/
/-- if k != skipped: tiles.append((names[k], cls, pattern, fee)) -/
theorem tab_fin {D : Ends} {a c nm tl pp : Addr} {H0 H : Hp} {many sk k fee : Int} {x : Str} {nms cs : List Str} {qs : List Addr} {tls : List (Tile Str)} {p : Pt Str} {v1 : Option V}
    (hF0 : FeAt H0 a) (fd : Fd a H0 H) (htl : H tl = some (.lst (qs.map V.ref))) (htn : H0 tl = none) (hnm : H nm = some (.lst (nms.map V.str))) (nnt : nm ≠ tl) (hP : Paired (TlAt H) qs tls) (hpp : PtAt H p pp) (hk0 : 0 ≤ k) (hk : k < (nms.length : Nat)) (hl : tls.length ≤ 100)
    (ho : ∀ t ∈ tls, 0 ≤ t.fee ∧ pdep t.pat ≤ 3) (hfee : 0 ≤ fee) (hdp : pdep p ≤ 3) (hC : TuF H c (cs.map V.str))
    (q : ∀ (H' : Hp) (qs' : List Addr) (tls' : List (Tile Str)), Fd a H0 H' → H' tl = some (.lst (qs'.map V.ref)) → H' nm = some (.lst (nms.map V.str)) → Paired (TlAt H') qs' tls' → tls'.length ≤ tls.length + 1 → (∀ t ∈ tls', 0 ≤ t.fee ∧ pdep t.pat ≤ 3) → TuF H' c (cs.map V.str) →
      D.nx [some (.ref a), v1, some (.ref c), some (.int many), some (.ref nm), some (.int sk), some (.ref tl), some (.int k), some (.str x), some (.int fee), some (.ref pp)] H') :
    tIfS (tTest (tOp rNe (tVar 7) (tVar 5))) (tDrop (tBM K "list" rAppend (tVar 6) (tCons (tTup (tCons (tOp (rIxL K) (tVar 4) (tVar 7)) (tCons (tVar 8) (tCons (tVar 10) (tCons (tVar 9) tNil))))) tNil))) tNext D
      [some (.ref a), v1, some (.ref c), some (.int many), some (.ref nm), some (.int sk), some (.ref tl), some (.int k), some (.str x), some (.int fee), some (.ref pp)] H := by
  refine ⟨_, rfl, _, rfl, rfl, _, rfl, ?_⟩
  by_cases e : k = sk
  · refine ifN (by rw [decT (by rw [e])]; rfl) ?_
    exact q H qs tls fd htl hnm hP (by omega) ho hC
  · refine ifY (by rw [decF fun z => e (V.int.inj z)]; rfl) ?_
    obtain ⟨n, _, hn⟩ := at_map hk0 hk
    have h6 : (1000 : Nat) < sizeLine := by decide
    refine ⟨_, rfl, .inl ⟨rfl, _, SqL.of htl⟩, _, rfl, _, rfl, nm, _, k, _, rfl, rfl, SqL.of hnm, hn, _, rfl, _, rfl, _, rfl, by show 4 ≤ sizeLine; decide, fun t ht => ?_⟩
    have s1 : Same H (upd H t (.tup [.str n, .str x, .ref pp, .int fee])) := Same.upd ht _
    have htl1 := s1 _ _ htl
    have t2 : Tups (upd H t (.tup [.str n, .str x, .ref pp, .int fee])) (upd (upd H t (.tup [.str n, .str x, .ref pp, .int fee])) tl (.lst (qs.map V.ref ++ [.ref t]))) := Tups.upd htl1 (fun _ z => nomatch z) _
    have hql : qs.length = tls.length := Paired.length hP
    refine ⟨tl, _, _, rfl, rfl, htl1, by rw [List.length_map]; omega, ?_⟩
    have fN : Fd a H0 (upd (upd H t (.tup [.str n, .str x, .ref pp, .int fee])) tl (.lst (qs.map V.ref ++ [.ref t]))) := (fd.trans (Fd.of fd.feed s1)).upd hF0 htn
    refine q _ (qs ++ [t]) (tls ++ [⟨n, x, p, fee⟩]) fN (by rw [upd_same, List.map_append]; rfl) (by rw [upd_ne nnt]; exact s1 _ _ hnm) ?_ (by rw [List.length_append]; exact Nat.le_refl _) ?_ ?_
    · refine Paired.snoc (Paired.mapP hP fun _ _ ⟨p1, z1, z2⟩ => ⟨p1, t2 _ _ (s1 _ _ z1), (z2.same s1).tups t2⟩) ⟨pp, t2 _ _ upd_same, (hpp.same s1).tups t2⟩
    · intro y hy
      rcases List.mem_append.mp hy with hy | hy
      · exact ho y hy
      · rw [List.mem_singleton] at hy
        subst hy
        exact ⟨hfee, hdp⟩
    · obtain ⟨o, e1, e2⟩ := hC.same s1
      exact ⟨o, by rw [upd_ne (ne_of e1 htl1 fun z => nomatch z)]; exact e1, e2⟩
def spTable : Sp := fun vs H Q _ => ∃ (a : Addr), vs = [.ref a, .int 3] ∧ FeAt H a ∧ ∀ (T : Tb Str) (p : Addr) (H' : Hp), Fd a H H' → TbAt H' p T → TOk T → Q (.ref p) H'
theorem scTab : FnScope ["feed", "most", "classes", "many", "names", "skipped", "tiles", "k", "cls", "fee", "pattern"] ["feed", "most"] (defScope sTable) := ⟨rfl, rfl, rfl, by decide +kernel, rfl, by decide +kernel, by decide +kernel⟩
theorem fee_at {r x y z : Int} (h0 : 0 ≤ r) (h1 : r < 3) (hx : 0 ≤ x) (hy : 0 ≤ y) (hz : 0 ≤ z) : ∃ v : Int, atI [V.int x, .int y, .int z] r = some (.int v) ∧ 0 ≤ v := by
  have : r = 0 ∨ r = 1 ∨ r = 2 := by omega
  rcases this with e | e | e <;> subst e
  · exact ⟨x, atI_of (by decide) rfl, hx⟩
  · exact ⟨y, atI_of (by decide) rfl, hy⟩
  · exact ⟨z, atI_of (by decide) rfl, hz⟩
theorem ok_table {f g fu fp : Addr} {fd gd du dp : FuncData} (F : Fun K "_law_table" "_law_table" sTable f fd) (X : Txt K w mg)
    (G : FnOk P w K mg base CX0 1 g gd ["feed", "many"] spTake) (bG : Binds K gd ["feed", "many"] []) (kG : PySem.W.keepIn K (.ref g) = true) (mG : mg "_law_take" = some (.ref g))
    (U : FnOk P w K mg base CX0 2 fu du ["feed", "many"] spUnlike) (bU : Binds K du ["feed", "many"] []) (kU : PySem.W.keepIn K (.ref fu) = true) (mU : mg "_law_unlike" = some (.ref fu))
    (R : FnOk P w K mg base CX0 4 fp dp ["feed", "classes", "cls"] spPattern) (bR : Binds K dp ["feed", "classes", "cls"] []) (kR : PySem.W.keepIn K (.ref fp) = true) (mR : mg "_law_pattern" = some (.ref fp)) :
    FnOk P w K mg base CX0 5 f fd ["feed", "most"] spTable := by
  refine F.ok scTab (fun vs H Q E h => ?_) (fun cdv A outer s H vs Q E hr h => ?_)
  · obtain ⟨a, rfl, _⟩ := h
    rfl
  obtain ⟨a, rfl, hF, q⟩ := h
  have nd := scTab.nd
  have hr1 : Room 1 _ := hr.mono (by decide)
  have hr2 : Room 2 _ := hr.mono (by decide)
  refine ⟨_, pss_cons (ps_set (i := 2) nd rfl (Or.inl rfl) (pe_callTy call_tuple_frz (by rfl) X.tuple bt_tuple (pa_cons (pe_call U hr2 rfl mU kU bU .nil pass0 (pa_cons (pv 0) (pa_cons (pe_op op_add pe_int (pe_call G hr1 rfl mG kG bG .nil pass0 (pa_cons (pv 0) (pa_cons (pv 1) pa_nil)))) pa_nil))) pa_nil)))
    (pss_cons (ps_set (i := 3) nd rfl (Or.inl rfl) (pe_op op_add pe_int (pe_call G hr1 rfl mG kG bG .nil pass0 (pa_cons (pv 0) (pa_cons pe_int pa_nil)))))
    (pss_cons (ps_set (i := 4) nd rfl (Or.inl rfl) (pe_call U hr2 rfl mU kU bU .nil pass0 (pa_cons (pv 0) (pa_cons (pe_op op_add (pv 3) pe_int) pa_nil))))
    (pss_cons (ps_set (i := 5) nd rfl (Or.inl rfl) (pe_call G hr1 rfl mG kG bG .nil pass0 (pa_cons (pv 0) (pa_cons pe_int pa_nil))))
    (pss_cons (ps_set (i := 6) nd rfl (Or.inl rfl) (pe_lst pa_nil))
    (pss_cons (ps_for PassesOwn.never rfl (pi_range1 (by rfl) X.range (pa_cons (pe_op op_add (pv 3) pe_int) pa_nil)) (pg_name (i := 7) nd rfl (Or.inl rfl))
      (pss_cons (ps_set (i := 8) nd rfl (Or.inl rfl) (pe_ix ix_tup (pv 2) (pe_call G hr1 rfl mG kG bG .nil pass0 (pa_cons (pv 0) (pa_cons (pe_callB call_len_seq (by rfl) X.len PySem.boot_len (pa_cons (pv 2) pa_nil)) pa_nil))) (fun _ _ => rfl)))
      (pss_cons (ps_set (i := 9) nd rfl (Or.inl rfl) (pe_ix ix_list (pe_lst (pa_cons (pe_call G hr1 rfl mG kG bG .nil pass0 (pa_cons (pv 0) (pa_cons pe_int pa_nil))) (pa_cons (pe_call G hr1 rfl mG kG bG .nil pass0 (pa_cons (pv 0) (pa_cons pe_int pa_nil))) (pa_cons (pe_call G hr1 rfl mG kG bG .nil pass0 (pa_cons (pv 0) (pa_cons pe_int pa_nil))) pa_nil))))
          (pe_call G hr1 rfl mG kG bG .nil pass0 (pa_cons (pv 0) (pa_cons pe_int pa_nil))) (fun _ _ => rfl)))
      (pss_cons (ps_set (i := 10) nd rfl (Or.inl rfl) (pe_call R hr rfl mR kR bR .nil pass0 (pa_cons (pv 0) (pa_cons (pv 2) (pa_cons (pv 8) pa_nil)))))
      (pss_cons (ps_if (pt_cmpR op_lt (pv 7) pe_int (nomark _)) (pss_one (ps_set (i := 10) nd rfl (Or.inl rfl) (pe_ix ix_list (pe_lst (pa_cons (pe_tup (pa_cons pe_str pa_nil)) (pa_cons (pe_tup (pa_cons pe_str (pa_cons pe_int (pa_cons (pe_op op_pow pe_int pe_int) pa_nil)))) pa_nil))) (pv 7) (fun _ _ => rfl)))) pss_nil)
      (pss_one (ps_if (pt_cmpR op_ne (pv 7) (pv 5) (nomark _))
        (pss_one (ps_expr (pe_bm PySem.F.plainAttrs_list PySem.F.slot_list_append PySem.F.type_list_append mt_append (pv 6) (pa_cons (pe_tup (pa_cons (pe_ix ix_list (pv 4) (pv 7) (fun _ _ => rfl)) (pa_cons (pv 8) (pa_cons (pv 10) (pa_cons (pv 9) pa_nil))))) pa_nil)))) pss_nil)))))))
    (pss_one (ps_ret (pe_tup (pa_cons (pv 2) (pa_cons (pe_callTy call_tuple_of (by rfl) X.tuple bt_tuple (pa_cons (pv 6) pa_nil)) pa_nil)))))))))), ?_⟩
  have cp : CPow 10 18 := ⟨by decide, by decide, by decide⟩
  refine ⟨_, rfl, _, rfl, _, rfl, a, 3, rfl, hF, by decide, by decide, fun r1 H1 f1 r10 r11 => ⟨_, _, rfl, rfl, ?_⟩⟩
  refine ⟨a, 1 + r1, rfl, f1.feed, by omega, by omega, fun lp cs H2 f2 nlp hcl hlp => ?_⟩
  refine ⟨lp, _, rfl, SqL.of hlp, fun c oc hc hTu => ?_⟩
  have f3 : Fd a H2 (upd H2 c oc) := Fd.of f2.feed (Same.upd hc _)
  generalize upd H2 c oc = H3 at hTu f3
  have f03 : Fd a H H3 := f1.trans (f2.trans f3)
  refine ⟨_, rfl, a, 7, rfl, f3.feed, by decide, by decide, fun r2 H4 f4 r20 r21 => ⟨_, _, rfl, rfl, ?_⟩⟩
  refine ⟨_, rfl, _, rfl, _, _, rfl, rfl, a, 2 + r2 + 2, rfl, f4.feed, by omega, by omega, fun nm nms H5 f5 nnm hnl hnm => ?_⟩
  have nna : nm ≠ a := f4.feed.ne nnm
  refine ⟨_, rfl, a, 8, rfl, f5.feed, by decide, by decide, fun sk H6 f6 sk0 sk1 => ?_⟩
  have hnm6 := f6.keep _ _ nna hnm
  have f06 : Fd a H H6 := f03.trans (f4.trans (f5.trans f6))
  have hC6 : TuF H6 c (cs.map V.str) := hTu.kp ((f4.trans (f5.trans f6)).kp f3.feed)
  refine ⟨Nat.zero_le _, fun tl htl => ?_⟩
  have htn : H tl = none := f06.free hF htl
  have nta : tl ≠ a := f06.feed.ne htl
  have nnt : nm ≠ tl := ne_of_none hnm6 htl
  have cne : cs ≠ [] := fun e => by
    rw [e, List.length_nil] at hcl
    omega
  refine ⟨_, rfl, _, _, rfl, rfl, 2 + r2 + 2, rfl, by omega, by omega, for_range (lo := 0) (n := (2 + r2 + 2).toNat) (fun i σ H' => ∃ (qs : List Addr) (tls : List (Tile Str)) (v7 v8 v9 v10 : Option V), σ = [some (.ref a), some (.int 3), some (.ref c), some (.int (2 + r2)), some (.ref nm), some (.int sk), some (.ref tl), v7, v8, v9, v10] ∧
      Fd a H H' ∧ H' tl = some (.lst (qs.map V.ref)) ∧ H' nm = some (.lst (nms.map V.str)) ∧ Paired (TlAt H') qs tls ∧ tls.length ≤ i ∧ (∀ t ∈ tls, 0 ≤ t.fee ∧ pdep t.pat ≤ 3) ∧ TuF H' c (cs.map V.str))
    ⟨[], [], none, none, none, none, rfl, f06.upd hF htn, upd_same, Same.upd htl _ _ _ hnm6, .nil, Nat.le_refl _, (fun _ z => nomatch z), hC6.same (Same.upd htl _)⟩ ?_ ?_⟩
  · rintro i σ H' hi ⟨qs, tls, v7, v8, v9, v10, rfl, fd, htq, hnq, hP, hlen, ho, hCq⟩
    have cl1 : (1 : Int) ≤ ((cs.map V.str).length : Nat) := by rw [List.length_map]; omega
    have cl2 : ((cs.map V.str).length : Nat) ≤ (100 : Int) := by rw [List.length_map]; omega
    refine ⟨_, rfl, _, rfl, _, rfl, c, _, rfl, .inr hCq.sq, a, _, rfl, fd.feed, cl1, by omega, fun r7 H7 f7 r70 r71 => ?_⟩
    rw [List.length_map] at r71
    obtain ⟨x, _, hx⟩ := at_map r70 r71
    have hC7 := hCq.kp (f7.kp fd.feed)
    refine ⟨c, _, r7, _, rfl, rfl, hC7.sq, hx, ?_⟩
    refine ⟨_, rfl, a, 3, rfl, f7.feed, by decide, by decide, fun x1 H8 f8 x10 _ => ⟨_, rfl, a, 12, rfl, f8.feed, by decide, by decide, fun x2 H9 f9 x20 _ => ⟨_, rfl, a, 1001, rfl, f9.feed, by decide, by decide, fun x3 H10 f10 x30 _ => ⟨by show 3 ≤ sizeLine; decide, fun l hl => ?_⟩⟩⟩⟩
    have nla : l ≠ a := f10.feed.ne hl
    have f11 : Fd a H10 (upd H10 l (.lst [.int x1, .int x2, .int x3])) := Fd.of f10.feed (Same.upd hl _)
    refine ⟨_, rfl, a, 3, rfl, f11.feed, by decide, by decide, fun r12 H12 f12 r120 r121 => ?_⟩
    obtain ⟨fee, hfee, fee0⟩ := fee_at r120 r121 x10 x20 x30
    refine ⟨l, _, r12, _, rfl, rfl, SqL.of (f12.keep _ _ nla upd_same), hfee, ?_⟩
    have f712 : Fd a H' H12 := f7.trans (f8.trans (f9.trans (f10.trans (f11.trans f12))))
    have hC12 := hCq.kp (f712.kp fd.feed)
    refine ⟨_, rfl, _, rfl, _, rfl, a, c, cs, x, rfl, f12.feed, hC12, cne, by omega, fun p pp H13 f13 hpp hdp => ?_⟩
    have f713 : Fd a H' H13 := f712.trans f13
    have kp13 := f713.kp fd.feed
    have hC13 := hCq.kp kp13
    have htq13 := f713.keep _ _ nta htq
    have hnq13 := f713.keep _ _ nna hnq
    have hP13 : Paired (TlAt H13) qs tls := Paired.mapP hP fun _ _ z => z.kp kp13
    have fd13 := fd.trans f713
    have hk0 : (0 : Int) ≤ 0 + (i : Int) := by omega
    have hk1 : (0 : Int) + (i : Int) < (nms.length : Nat) := by omega
    refine ⟨_, rfl, _, _, rfl, rfl, _, rfl, ?_⟩
    by_cases hk2 : (0 : Int) + (i : Int) < 2
    · refine ifY (decide_eq_true hk2) ?_
      refine ⟨by show 1 ≤ sizeLine; decide, fun t1 ht1 => ⟨10, 18, rfl, rfl, cp, by show 3 ≤ sizeLine; decide, fun t2 ht2 => ⟨by show 2 ≤ sizeLine; decide, fun l2 hl2 => ?_⟩⟩⟩
      have s1 : Same H13 (upd H13 t1 (.tup [.str "any"])) := Same.upd ht1 _
      have s2 : Same (upd H13 t1 (.tup [.str "any"])) (upd (upd H13 t1 (.tup [.str "any"])) t2 (.tup [.str "from", .int 0, .int (10 ^ (18 : Int).toNat)])) := Same.upd ht2 _
      have s3 : Same (upd (upd H13 t1 (.tup [.str "any"])) t2 (.tup [.str "from", .int 0, .int (10 ^ (18 : Int).toNat)])) (upd (upd (upd H13 t1 (.tup [.str "any"])) t2 (.tup [.str "from", .int 0, .int (10 ^ (18 : Int).toNat)])) l2 (.lst [.ref t1, .ref t2])) := Same.upd hl2 _
      have sA := s1.trans (s2.trans s3)
      have g1 : upd (upd (upd H13 t1 (.tup [.str "any"])) t2 (.tup [.str "from", .int 0, .int (10 ^ (18 : Int).toNat)])) l2 (.lst [.ref t1, .ref t2]) t1 = some (.tup [.str "any"]) := s3 _ _ (s2 _ _ upd_same)
      have g2 : upd (upd (upd H13 t1 (.tup [.str "any"])) t2 (.tup [.str "from", .int 0, .int (10 ^ (18 : Int).toNat)])) l2 (.lst [.ref t1, .ref t2]) t2 = some (.tup [.str "from", .int 0, .int (10 ^ (18 : Int).toNat)]) := s3 _ _ upd_same
      have g3 : upd (upd (upd H13 t1 (.tup [.str "any"])) t2 (.tup [.str "from", .int 0, .int (10 ^ (18 : Int).toNat)])) l2 (.lst [.ref t1, .ref t2]) l2 = some (.lst [.ref t1, .ref t2]) := upd_same
      generalize upd (upd (upd H13 t1 (.tup [.str "any"])) t2 (.tup [.str "from", .int 0, .int (10 ^ (18 : Int).toNat)])) l2 (.lst [.ref t1, .ref t2]) = H14 at sA g1 g2 g3
      have fdA := fd13.trans (Fd.of fd13.feed sA)
      have hPA : Paired (TlAt H14) qs tls := Paired.mapP hP13 fun _ _ z => z.same sA
      have hch : ∃ (pt : Pt Str) (pa : Addr), atI [V.ref t1, .ref t2] (0 + (i : Int)) = some (.ref pa) ∧ PtAt H14 pt pa ∧ pdep pt ≤ 3 := by
        have : i = 0 ∨ i = 1 := by omega
        rcases this with e | e <;> subst e
        · exact ⟨.any, t1, at0, g1, by unfold pdep; omega⟩
        · exact ⟨.from_ 0 (10 ^ (18 : Int).toNat), t2, at1, g2, by unfold pdep; omega⟩
      obtain ⟨pt, pa, hat, hpt, hdpt⟩ := hch
      refine ⟨_, rfl, l2, _, _, _, rfl, rfl, SqL.of g3, hat, ?_⟩
      exact tab_fin (D := _) (p := pt) (cs := cs) (nms := nms) (tls := tls) hF fdA (sA _ _ htq13) htn (sA _ _ hnq13) nnt hPA hpt hk0 hk1 (by omega) ho fee0 hdpt (hC13.same sA) fun H' qs' tls' a1 a2 a3 a4 a5 a6 a7 => ⟨qs', tls', _, _, _, _, rfl, a1, a2, a3, a4, by omega, a6, a7⟩
    · refine ifN (decide_eq_false hk2) ?_
      exact tab_fin (D := _) (p := p) (cs := cs) (nms := nms) (tls := tls) hF fd13 htq13 htn hnq13 nnt hP13 hpp hk0 hk1 (by omega) ho fee0 hdp hC13 fun H' qs' tls' a1 a2 a3 a4 a5 a6 a7 => ⟨qs', tls', _, _, _, _, rfl, a1, a2, a3, a4, by omega, a6, a7⟩
  · rintro σ H' ⟨qs, tls, v7, v8, v9, v10, rfl, fd, htq, hnq, hP, hlen, ho, hCq⟩
    refine ⟨_, rfl, _, rfl, tl, _, rfl, .inl ⟨SqL.of htq, fun tt htt => ⟨by show 2 ≤ sizeLine; decide, fun p hp => ?_⟩⟩⟩
    have s1 : Same H' (upd H' tt (.tup (qs.map V.ref))) := Same.upd htt _
    have s2 : Same (upd H' tt (.tup (qs.map V.ref))) (upd (upd H' tt (.tup (qs.map V.ref))) p (.tup [.ref c, .ref tt])) := Same.upd hp _
    have sA := s1.trans s2
    refine q ⟨cs, tls⟩ p _ (fd.trans (Fd.of fd.feed sA)) ⟨c, tt, qs, upd_same, hCq.same sA, s2 _ _ upd_same, Paired.mapP hP fun _ _ z => z.same sA⟩ ⟨⟨fun t ht => (ho t ht).1⟩, ?_, ?_, cne, fun t ht => (ho t ht).2⟩
    · show tls.length ≤ 100
      omega
    · show cs.length ≤ 100
      omega
end
end K50

/-! The law's draws: _law_tree, _law_web, _law_goals. -/
namespace K50
open PySem PySem.Spec PyProof.Rows L2
open M50 (Tr Pt Tb Tile Sg Lab)

theorem sign4 {r : Int} (h0 : 0 ≤ r) (h1 : r < 4) : ∃ s : Sg, atI [V.str "sum", .str "less", .str "by", .str "sum"] r = some (.str (sgS s)) := by
  have : r = 0 ∨ r = 1 ∨ r = 2 ∨ r = 3 := by omega
  rcases this with e | e | e | e <;> subst e
  · exact ⟨.sum, atI_of (by decide) rfl⟩
  · exact ⟨.less, atI_of (by decide) rfl⟩
  · exact ⟨.mul, atI_of (by decide) rfl⟩
  · exact ⟨.sum, atI_of (by decide) rfl⟩
theorem two_at {r x y : Int} (h0 : 0 ≤ r) (h1 : r < 2) {P : Int → Prop} (hx : P x) (hy : P y) : ∃ v : Int, atI [V.int x, .int y] r = some (.int v) ∧ P v := by
  have : r = 0 ∨ r = 1 := by omega
  rcases this with e | e <;> subst e
  · exact ⟨x, at0, hx⟩
  · exact ⟨y, at1, hy⟩

section
variable {P : Program} {w : World} {K : PySem.W.Frag} {mg : Str → Option Value} {base : Heap}
/-! ### _law_tree -/
def spTree (n : Nat) : Sp := fun vs H Q _ => ∃ (a nm : Addr) (xs : List Str) (d k : Int), vs = [.ref a, .ref nm, .int d, .int k] ∧ FeAt H a ∧ nm ≠ a ∧ H nm = some (.lst (xs.map V.str)) ∧ xs ≠ [] ∧ xs.length ≤ 100 ∧ 0 ≤ d ∧ d < n ∧ 0 ≤ k ∧ k ≤ 100 ∧
  ∀ (t : Tr Str) (q : Addr) (H' : Hp), Fd a H H' → TrAt H' t q → dep t ≤ d.toNat + 1 → pcs k.toNat t → Q (.ref q) H'
theorem scTree : FnScope ["feed", "names", "deep", "number", "way", "leaf", "sign"] ["feed", "names", "deep", "number"] (defScope sTree) := ⟨rfl, rfl, rfl, by decide +kernel, rfl, by decide +kernel, by decide +kernel⟩
theorem ok_tree1 {n : Nat} {f g : Addr} {fd gd : FuncData} (F : Fun K "_law_tree" "_law_tree" sTree f fd) (X : Txt K w mg) (bF : Binds K fd ["feed", "names", "deep", "number"] []) (mF : mg "_law_tree" = some (.ref f))
    (G : FnOk P w K mg base CX0 1 g gd ["feed", "many"] spTake) (bG : Binds K gd ["feed", "many"] []) (kG : PySem.W.keepIn K (.ref g) = true) (mG : mg "_law_take" = some (.ref g))
    (R : FnOk P w K mg base CX0 (n + 1) f fd ["feed", "names", "deep", "number"] (spTree n)) : FnOk P w K mg base CX0 (n + 2) f fd ["feed", "names", "deep", "number"] (spTree (n + 1)) := by
  refine F.ok scTree (fun vs H Q E h => ?_) (fun cdv A outer s H vs Q E hr h => ?_)
  · obtain ⟨a, nm, xs, d, k, rfl, _⟩ := h
    rfl
  obtain ⟨a, nm, xs, d, k, rfl, hF, nna, hN, xne, xlen, d0, dn, k0, k1, q⟩ := h
  have nd := scTree.nd
  have hr1 : Room 1 _ := hr.mono (Nat.le_add_left 1 n)
  have cp : CPow 10 18 := ⟨by decide, by decide, by decide⟩
  refine ⟨_, pss_cons (ps_set (i := 4) nd rfl (Or.inl rfl) (pe_call G hr1 rfl mG kG bG .nil pass0 (pa_cons (pv 0) (pa_cons pe_int pa_nil))))
    (pss_cons (ps_if (PW.pt (pw_and (pt_cmpR op_gt (pv 3) pe_int (nomark _)) (pw_and1 (pt_cmpR op_lt (pv 4) pe_int (nomark _)))))
      (pss_one (ps_ret (pe_tup (pa_cons pe_str (pa_cons (pe_ix ix_list (pe_lst (pa_cons (pe_op op_sub (pv 3) pe_int) (pa_cons (pe_call G hr1 rfl mG kG bG .nil pass0 (pa_cons (pv 0) (pa_cons (pv 3) pa_nil))) pa_nil)))
        (pe_call G hr1 rfl mG kG bG .nil pass0 (pa_cons (pv 0) (pa_cons pe_int pa_nil))) (fun _ _ => rfl)) pa_nil))))) pss_nil)
    (pss_cons (ps_if (PW.pt (pw_or (pt_cmpR op_eq (pv 2) pe_int (nomark _)) (pw_or1 (pt_cmpR op_lt (pv 4) pe_int (nomark _)))))
      (pss_cons (ps_set (i := 5) nd rfl (Or.inl rfl) (pe_call G hr1 rfl mG kG bG .nil pass0 (pa_cons (pv 0) (pa_cons pe_int pa_nil))))
      (pss_cons (ps_if (pt_cmpR op_eq (pv 5) pe_int (nomark _))
        (pss_one (ps_ret (pe_tup (pa_cons pe_str (pa_cons (pe_ix ix_list (pe_lst (pa_cons (pe_call G hr1 rfl mG kG bG .nil pass0 (pa_cons (pv 0) (pa_cons pe_int pa_nil))) (pa_cons (pe_call G hr1 rfl mG kG bG .nil pass0 (pa_cons (pv 0) (pa_cons (pe_op op_add (pe_op op_pow pe_int pe_int) pe_int) pa_nil))) pa_nil)))
          (pe_call G hr1 rfl mG kG bG .nil pass0 (pa_cons (pv 0) (pa_cons pe_int pa_nil))) (fun _ _ => rfl)) pa_nil))))) pss_nil)
      (pss_one (ps_ret (pe_tup (pa_cons pe_str (pa_cons (pe_ix ix_list (pv 1) (pe_call G hr1 rfl mG kG bG .nil pass0 (pa_cons (pv 0) (pa_cons (pe_callB call_len_seq (by rfl) X.len PySem.boot_len (pa_cons (pv 1) pa_nil)) pa_nil))) (fun _ _ => rfl)) pa_nil))))))) pss_nil)
    (pss_cons (ps_if (pt_cmpR op_eq (pv 4) pe_int (nomark _)) (pss_one (ps_ret (pe_tup (pa_cons pe_str (pa_cons (pe_call R hr rfl mF F.kp bF .nil pass0 (pa_cons (pv 0) (pa_cons (pv 1) (pa_cons (pe_op op_sub (pv 2) pe_int) (pa_cons (pv 3) pa_nil))))) pa_nil))))) pss_nil)
    (pss_cons (ps_set (i := 6) nd rfl (Or.inl rfl) (pe_ix ix_list (pe_lst (pa_cons pe_str (pa_cons pe_str (pa_cons pe_str (pa_cons pe_str pa_nil))))) (pe_op op_sub (pv 4) pe_int) (fun _ _ => rfl)))
    (pss_one (ps_ret (pe_tup (pa_cons (pv 6) (pa_cons (pe_call R hr rfl mF F.kp bF .nil pass0 (pa_cons (pv 0) (pa_cons (pv 1) (pa_cons (pe_op op_sub (pv 2) pe_int) (pa_cons (pv 3) pa_nil))))) (pa_cons (pe_call R hr rfl mF F.kp bF .nil pass0 (pa_cons (pv 0) (pa_cons (pv 1) (pa_cons (pe_op op_sub (pv 2) pe_int) (pa_cons (pv 3) pa_nil))))) pa_nil)))))))))), ?_⟩
  refine ⟨_, rfl, a, 10, rfl, hF, by decide, by decide, fun way H1 f1 w0 w1 => ?_⟩
  have hN1 := f1.keep _ _ nna hN
  refine ⟨_, rfl, _, _, rfl, rfl, _, rfl, ?_⟩
  by_cases e0 : 0 < k ∧ way < 4
  · refine ifY (decide_eq_true e0.1) ?_
    refine ⟨_, rfl, _, _, rfl, rfl, _, rfl, ifY (decide_eq_true e0.2) ?_⟩
    refine ⟨_, rfl, _, _, rfl, rfl, _, rfl, _, rfl, a, k, rfl, f1.feed, by omega, by omega, fun r2 H2 f2 r20 r21 => ⟨by show 2 ≤ sizeLine; decide, fun l hl => ?_⟩⟩
    have nla : l ≠ a := f2.feed.ne hl
    have f3 : Fd a H2 (upd H2 l (.lst [.int (k - 1), .int r2])) := Fd.of f2.feed (Same.upd hl _)
    refine ⟨_, rfl, a, 2, rfl, f3.feed, by decide, by decide, fun r4 H4 f4 r40 r41 => ?_⟩
    obtain ⟨v, hv, hv0, hv1⟩ := two_at (P := fun v => 0 ≤ v ∧ v < k) r40 r41 (x := k - 1) (y := r2) ⟨by omega, by omega⟩ ⟨r20, r21⟩
    obtain ⟨j, rfl⟩ := Int.eq_ofNat_of_zero_le hv0
    refine ⟨l, _, r4, _, rfl, rfl, SqL.of (f4.keep _ _ nla upd_same), hv, by show 2 ≤ sizeLine; decide, fun t ht => ?_⟩
    have fA := f1.trans (f2.trans (f3.trans f4))
    exact q (.piece j) t _ (fA.upd hF (fA.free hF ht)) upd_same (by unfold dep; omega) (by show j < k.toNat; omega)
  by_cases e1 : 0 < k
  case' pos =>
    refine ifY (decide_eq_true e1) ?_
    refine ⟨_, rfl, _, _, rfl, rfl, _, rfl, ifN (decide_eq_false (by omega)) ?_⟩
  case' neg => refine ifN (decide_eq_false e1) ?_
  all_goals
    refine ⟨_, rfl, rfl, _, rfl, ?_⟩
    by_cases e2 : d = 0 ∨ way < 5
    · by_cases e3 : d = 0
      case' pos => refine ifY (decT (by rw [e3])) (iteT ?_)
      case' neg =>
        refine ifN (decF fun z => e3 (V.int.inj z)) ?_
        refine ⟨_, rfl, _, _, rfl, rfl, _, rfl, ifY (decide_eq_true (by omega)) ?_⟩
      all_goals
        refine ⟨_, rfl, a, 3, rfl, f1.feed, by decide, by decide, fun leaf H2 f2 l0 l1 => ?_⟩
        have hN2 := f2.keep _ _ nna hN1
        refine ⟨_, rfl, rfl, _, rfl, ?_⟩
        by_cases e4 : leaf = 0
        · refine ifY (decT (by rw [e4])) ?_
          refine ⟨_, rfl, a, 6, rfl, f2.feed, by decide, by decide, fun x1 H3 f3 x10 _ => ⟨_, rfl, 10, 18, rfl, rfl, cp, _, _, rfl, rfl, a, 10 ^ (18 : Int).toNat + 1, rfl, f3.feed, by decide, by decide, fun x2 H4 f4 x20 _ => ⟨by show 2 ≤ sizeLine; decide, fun l hl => ?_⟩⟩⟩
          have nla : l ≠ a := f4.feed.ne hl
          have f5 : Fd a H4 (upd H4 l (.lst [.int x1, .int x2])) := Fd.of f4.feed (Same.upd hl _)
          refine ⟨_, rfl, a, 2, rfl, f5.feed, by decide, by decide, fun r6 H6 f6 r60 r61 => ?_⟩
          obtain ⟨v, hv, _⟩ := two_at (P := fun v => True) r60 r61 (x := x1) (y := x2) trivial trivial
          refine ⟨l, _, r6, _, rfl, rfl, SqL.of (f6.keep _ _ nla upd_same), hv, by show 2 ≤ sizeLine; decide, fun t ht => ?_⟩
          have fA := f1.trans (f2.trans (f3.trans (f4.trans (f5.trans f6))))
          exact q (.num v) t _ (fA.upd hF (fA.free hF ht)) upd_same (by unfold dep; omega) True.intro
        · refine ifN (decF fun z => e4 (V.int.inj z)) ?_
          refine ⟨_, rfl, _, rfl, _, rfl, nm, _, rfl, .inl (SqL.of hN2), a, _, rfl, f2.feed, ?_, by rw [List.length_map]; omega, fun r3 H3 f3 r30 r31 => ?_⟩
          · rw [List.length_map]
            cases xs with
            | nil => exact absurd rfl xne
            | cons x r => rw [List.length_cons]; omega
          · rw [List.length_map] at r31
            obtain ⟨x, _, hx⟩ := at_map r30 r31
            refine ⟨nm, _, r3, _, rfl, rfl, SqL.of (f3.keep _ _ nna hN2), hx, by show 2 ≤ sizeLine; decide, fun t ht => ?_⟩
            have fA := f1.trans (f2.trans f3)
            exact q (.name x) t _ (fA.upd hF (fA.free hF ht)) upd_same (by unfold dep; omega) True.intro
    · refine ifN (decF fun z => e2 (.inl (V.int.inj z))) ?_
      refine ⟨_, rfl, _, _, rfl, rfl, _, rfl, ifN (decide_eq_false (by omega)) ?_⟩
      refine ⟨_, rfl, rfl, _, rfl, ?_⟩
      by_cases e5 : way = 5
      · refine ifY (decT (by rw [e5])) ?_
        refine ⟨_, rfl, _, rfl, _, rfl, _, _, rfl, rfl, _, rfl, a, nm, xs, d - 1, k, rfl, f1.feed, nna, hN1, xne, xlen, by omega, by omega, k0, k1, fun t1 q1 H2 f2 ht1 hd1 hp1 => ⟨by show 2 ≤ sizeLine; decide, fun t ht => ?_⟩⟩
        have fA := f1.trans f2
        exact q (.turn t1) t _ (fA.upd hF (fA.free hF ht)) ⟨q1, upd_same, ht1.same (Same.upd ht _)⟩ (by unfold dep; omega) hp1
      · refine ifN (decF fun z => e5 (V.int.inj z)) ?_
        refine ⟨by show 4 ≤ sizeLine; decide, fun l hl => ?_⟩
        have s1 : Same H1 (upd H1 l (.lst [.str "sum", .str "less", .str "by", .str "sum"])) := Same.upd hl _
        have f2 := Fd.of f1.feed s1
        obtain ⟨sg, hsg⟩ := sign4 (r := way - 6) (by omega) (by omega)
        refine ⟨_, rfl, _, _, rfl, rfl, l, _, way - 6, _, rfl, rfl, SqL.of upd_same, hsg, ?_⟩
        have hN2 := s1 _ _ hN1
        refine ⟨_, rfl, _, rfl, _, rfl, _, rfl, _, _, rfl, rfl, _, rfl, a, nm, xs, d - 1, k, rfl, f2.feed, nna, hN2, xne, xlen, by omega, by omega, k0, k1, fun t1 q1 H3 f3 ht1 hd1 hp1 => ?_⟩
        have hN3 := f3.keep _ _ nna hN2
        refine ⟨_, rfl, _, rfl, _, rfl, _, _, rfl, rfl, _, rfl, a, nm, xs, d - 1, k, rfl, f3.feed, nna, hN3, xne, xlen, by omega, by omega, k0, k1, fun t2 q2 H4 f4 ht2 hd2 hp2 => ⟨by show 3 ≤ sizeLine; decide, fun t ht => ?_⟩⟩
        have fA := f1.trans (f2.trans (f3.trans f4))
        refine q (.bin sg t1 t2) t _ (fA.upd hF (fA.free hF ht)) ⟨q1, q2, upd_same, (ht1.tups (f4.kp f3.feed).tup).same (Same.upd ht _), ht2.same (Same.upd ht _)⟩ ?_ ⟨hp1, hp2⟩
        have : Nat.max (dep t1) (dep t2) ≤ (d - 1).toNat + 1 := Nat.max_le.mpr ⟨hd1, hd2⟩
        unfold dep
        omega
theorem ok_tree {f g : Addr} {fd gd : FuncData} (F : Fun K "_law_tree" "_law_tree" sTree f fd) (X : Txt K w mg) (bF : Binds K fd ["feed", "names", "deep", "number"] []) (mF : mg "_law_tree" = some (.ref f))
    (G : FnOk P w K mg base CX0 1 g gd ["feed", "many"] spTake) (bG : Binds K gd ["feed", "many"] []) (kG : PySem.W.keepIn K (.ref g) = true) (mG : mg "_law_take" = some (.ref g)) : ∀ n : Nat, FnOk P w K mg base CX0 (n + 1) f fd ["feed", "names", "deep", "number"] (spTree n)
  | 0 => by
    have no : ∀ vs H Q E, ¬ spTree 0 vs H Q E := fun vs H Q E h => by
      obtain ⟨a, nm, xs, d, k, _, _, _, _, _, _, h0, h1, _⟩ := h
      omega
    exact ⟨fun vs H Q E h => absurd h (no vs H Q E), fun A outer s H args us vs Q E _ _ _ _ h => absurd h (no vs H Q E)⟩
  | n + 1 => ok_tree1 F X bF mF G bG kG mG (ok_tree F X bF mF G bG kG mG n)

/-! ### _law_web -/
def spWeb : Sp := fun vs H Q _ => ∃ (a : Addr) (m : Int), vs = [.ref a, .int m, .int 2] ∧ FeAt H a ∧ 1 ≤ m ∧ m ≤ 6 ∧ ∀ (ws : List (Tr Str)) (p : Addr) (H' : Hp), Fd a H H' → WbAt H' p ws → WOk ws → ws.length = m.toNat → Q (.ref p) H'
abbrev nWeb : List Str := ["feed", "many", "deep", "names", "number"]
theorem scWeb : FnScope nWeb ["feed", "many", "deep"] (defScope sWeb) := ⟨rfl, rfl, rfl, by decide +kernel, rfl, by decide +kernel, by decide +kernel⟩
theorem ok_web {f g fu ft : Addr} {fd gd du dt : FuncData} (F : Fun K "_law_web" "_law_web" sWeb f fd) (X : Txt K w mg)
    (G : FnOk P w K mg base CX0 1 g gd ["feed", "many"] spTake) (bG : Binds K gd ["feed", "many"] []) (kG : PySem.W.keepIn K (.ref g) = true) (mG : mg "_law_take" = some (.ref g))
    (U : FnOk P w K mg base CX0 2 fu du ["feed", "many"] spUnlike) (bU : Binds K du ["feed", "many"] []) (kU : PySem.W.keepIn K (.ref fu) = true) (mU : mg "_law_unlike" = some (.ref fu))
    (R : FnOk P w K mg base CX0 4 ft dt ["feed", "names", "deep", "number"] (spTree 3)) (bR : Binds K dt ["feed", "names", "deep", "number"] []) (kR : PySem.W.keepIn K (.ref ft) = true) (mR : mg "_law_tree" = some (.ref ft)) :
    FnOk P w K mg base CX0 5 f fd ["feed", "many", "deep"] spWeb := by
  refine F.ok scWeb (fun vs H Q E h => ?_) (fun cdv A outer s H vs Q E hr h => ?_)
  · obtain ⟨a, m, rfl, _⟩ := h
    rfl
  obtain ⟨a, m, rfl, hF, m1, m6, q⟩ := h
  have nd := scWeb.nd
  have hr1 : Room 1 _ := hr.mono (by decide)
  have hr2 : Room 2 _ := hr.mono (by decide)
  refine ⟨_, pss_cons (ps_set (i := 3) nd rfl (Or.inr rfl) (pe_call U hr2 rfl mU kU bU .nil pass0 (pa_cons (pv 0) (pa_cons (pe_op op_add pe_int (pe_call G hr1 rfl mG kG bG .nil pass0 (pa_cons (pv 0) (pa_cons pe_int pa_nil)))) pa_nil))))
    (pss_one (ps_ret (pe_callTy call_tuple_of (by rfl) X.tuple bt_tuple (pa_cons
      (pe_lc (own := [("number", 4)]) (g := gName 4) (tt := tYes) rfl nd (pi_range1 (by rfl) X.range (pa_cons (pv 1) pa_nil)) (blkOk_by (N := nWeb) (sc := defScope sWeb) (by decide +kernel))
        (fun _ _ _ _ _ => pg_name (i := 4) nd rfl (Or.inl rfl)) (fun _ _ _ _ _ => pts_nil)
        (fun _ _ _ _ _ => pe_call R hr rfl mR kR bR .nil pass0 (pa_cons (pv 0) (pa_cons (pv 3) (pa_cons (pv 2) (pa_cons (pv 4) pa_nil)))))) pa_nil)))), ?_⟩
  refine ⟨_, rfl, _, rfl, a, 3, rfl, hF, by decide, by decide, fun r1 H1 f1 r10 r11 => ⟨_, _, rfl, rfl, ?_⟩⟩
  refine ⟨a, 1 + r1, rfl, f1.feed, by omega, by omega, fun nm xs H2 f2 nnm hxl hnm => ?_⟩
  have nna : nm ≠ a := f1.feed.ne nnm
  have xne : xs ≠ [] := fun e => by
    rw [e, List.length_nil] at hxl
    omega
  have f12 := f1.trans f2
  refine ⟨_, rfl, m, rfl, by omega, by omega, fun D hD => lc_range (lo := 0) (n := m.toNat) (fun i H' => Fd a H2 H' ∧ H' nm = some (.lst (xs.map V.str)) ∧ ∃ (qs : List Addr) (ws : List (Tr Str)), H' D = some (.lst (qs.map V.ref)) ∧ Paired (fun q t => TrAt H' t q) qs ws ∧ ws.length = i ∧ (∀ t ∈ ws, dep t ≤ 3) ∧ ∀ j t, ws[j]? = some t → pcs j t)
    ⟨Fd.of f2.feed (Same.upd hD _), Same.upd hD _ _ _ hnm, [], [], upd_same, .nil, rfl, (fun _ z => nomatch z), fun j t z => by simp at z⟩ ?_ ?_⟩
  · rintro i H' hi ⟨fd, hn', qs, ws, hDq, hP, hwl, hdp, hpc⟩
    refine ⟨rfl, yesI ?_⟩
    refine ⟨_, rfl, _, rfl, _, rfl, _, rfl, a, nm, xs, 2, 0 + (i : Int), rfl, fd.feed, nna, hn', xne, by omega, by decide, by decide, by omega, by omega, fun t q1 H3 f3 ht hdt hpt => ?_⟩
    have nDa : D ≠ a := f2.feed.ne hD
    have hD3 := f3.keep _ _ nDa hDq
    have hql : qs.length = ws.length := Paired.length hP
    have h6 : (1000 : Nat) < sizeLine := by decide
    have t3 : Tups H3 (upd H3 D (.lst (qs.map V.ref ++ [.ref q1]))) := Tups.upd hD3 (fun _ z => nomatch z) _
    have t2 := (f3.kp fd.feed).tup
    have e3 : (0 + (i : Int)).toNat = i := by omega
    refine ⟨_, hD3, by rw [List.length_map]; omega, (fd.trans f3).upd f2.feed hD, ?_, qs ++ [q1], ws ++ [t], by rw [upd_same, List.map_append]; rfl, Paired.snoc (Paired.mapP hP fun _ _ z => (z.tups t2).tups t3) (ht.tups t3), by rw [List.length_append, hwl]; rfl, ?_, ?_⟩
    · rw [upd_ne (ne_of_none hnm hD)]
      exact f3.keep _ _ nna hn'
    · intro u hu
      rcases List.mem_append.mp hu with hu | hu
      · exact hdp u hu
      · rw [List.mem_singleton] at hu
        subst hu
        exact hdt
    · intro j u hj
      by_cases hji : j < ws.length
      · rw [List.getElem?_append_left hji] at hj
        exact hpc j u hj
      · rw [List.getElem?_append_right (by omega)] at hj
        have : j - ws.length = 0 := by
          cases h0 : j - ws.length with
          | zero => rfl
          | succ z => rw [h0] at hj; simp at hj
        rw [this] at hj
        cases hj
        have ej : j = i := by omega
        rw [ej, ← e3]
        exact hpt
  · rintro H' ⟨fd, hn', qs, ws, hDq, hP, hwl, hdp, hpc⟩
    refine ⟨D, _, rfl, .inl ⟨SqL.of hDq, fun t ht => ?_⟩⟩
    have s1 : Same H' (upd H' t (.tup (qs.map V.ref))) := Same.upd ht _
    exact q ws t _ ((f12.trans fd).trans (Fd.of fd.feed s1)) ⟨qs, upd_same, Paired.mapP hP fun _ _ z => z.same s1⟩ ⟨by omega, hdp, hpc⟩ hwl

/-! ### _law_goals -/
def spLGoals : Sp := fun vs H Q _ => ∃ (a ta wa : Addr) (T : Tb Str) (ws : List (Tr Str)), vs = [.ref a, .ref ta, .ref wa] ∧ FeAt H a ∧ TbAt H ta T ∧ TOk T ∧ WbAt H wa ws ∧ 1 ≤ ws.length ∧ ws.length ≤ 100 ∧
  ∀ (gs : List (Nat × Str)) (p : Addr) (H' : Hp), Fd a H H' → GlAt H' p gs → (∀ g ∈ gs, g.1 < ws.length ∧ g.2 ∈ T.classes) → gs.length ≤ 100 → Q (.ref p) H'
theorem scLG : FnScope ["feed", "table", "web", "goals", "k", "number"] ["feed", "table", "web"] (defScope sLawGoals) := ⟨rfl, rfl, rfl, by decide +kernel, rfl, by decide +kernel, by decide +kernel⟩
theorem ok_lgoals {f g : Addr} {fd gd : FuncData} (F : Fun K "_law_goals" "_law_goals" sLawGoals f fd) (X : Txt K w mg)
    (G : FnOk P w K mg base CX0 1 g gd ["feed", "many"] spTake) (bG : Binds K gd ["feed", "many"] []) (kG : PySem.W.keepIn K (.ref g) = true) (mG : mg "_law_take" = some (.ref g)) :
    FnOk P w K mg base CX0 2 f fd ["feed", "table", "web"] spLGoals := by
  refine F.ok scLG (fun vs H Q E h => ?_) (fun cdv A outer s H vs Q E hr h => ?_)
  · obtain ⟨a, ta, wa, T, ws, rfl, _⟩ := h
    rfl
  obtain ⟨a, ta, wa, T, ws, rfl, hF, hT, ok, hW, w1, w2, q⟩ := h
  have nd := scLG.nd
  refine ⟨_, pss_cons (ps_set (i := 3) nd rfl (Or.inl rfl) (pe_lst pa_nil))
    (pss_cons (ps_for PassesOwn.never rfl (pi_range1 (by rfl) X.range (pa_cons (pe_op op_add pe_int (pe_call G hr rfl mG kG bG .nil pass0 (pa_cons (pv 0) (pa_cons pe_int pa_nil)))) pa_nil)) (pg_name (i := 4) nd rfl (Or.inl rfl))
      (pss_cons (ps_set (i := 5) nd rfl (Or.inl rfl) (pe_ix ix_list (pe_lst (pa_cons (pe_op op_sub (pe_callB call_len_seq (by rfl) X.len PySem.boot_len (pa_cons (pv 2) pa_nil)) pe_int)
          (pa_cons (pe_call G hr rfl mG kG bG .nil pass0 (pa_cons (pv 0) (pa_cons (pe_callB call_len_seq (by rfl) X.len PySem.boot_len (pa_cons (pv 2) pa_nil)) pa_nil))) pa_nil)))
          (pe_call G hr rfl mG kG bG .nil pass0 (pa_cons (pv 0) (pa_cons pe_int pa_nil))) (fun _ _ => rfl)))
      (pss_one (ps_expr (pe_bm PySem.F.plainAttrs_list PySem.F.slot_list_append PySem.F.type_list_append mt_append (pv 3) (pa_cons (pe_tup (pa_cons (pv 5) (pa_cons
          (pe_ix ix_tup (pe_ix ix_tup (pv 1) pe_int (fun _ _ => rfl)) (pe_call G hr rfl mG kG bG .nil pass0 (pa_cons (pv 0) (pa_cons (pe_callB call_len_seq (by rfl) X.len PySem.boot_len (pa_cons (pe_ix ix_tup (pv 1) pe_int (fun _ _ => rfl)) pa_nil)) pa_nil))) (fun _ _ => rfl)) pa_nil))) pa_nil))))))
    (pss_one (ps_ret (pv 3)))), ?_⟩
  refine ⟨Nat.zero_le _, fun gl hgl => ?_⟩
  have hgn : H gl = none := hgl
  have f0 : Fd a H (upd H gl (.lst [])) := Fd.of hF (Same.upd hgl _)
  have nga : gl ≠ a := hF.ne hgl
  refine ⟨_, rfl, a, 3, rfl, f0.feed, by decide, by decide, fun r1 H1 f1 r10 r11 => ⟨_, _, rfl, rfl, ?_⟩⟩
  have cpos : 1 ≤ T.classes.length := by
    cases e : T.classes with
    | nil => exact absurd e ok.some
    | cons x r => rw [List.length_cons]; omega
  have cfew := ok.few
  refine ⟨1 + r1, rfl, by omega, by omega, for_range (lo := 0) (n := (1 + r1).toNat) (fun i σ H' => ∃ (qs : List Addr) (gs : List (Nat × Str)) (v4 v5 : Option V), σ = [some (.ref a), some (.ref ta), some (.ref wa), some (.ref gl), v4, v5] ∧
      Fd a H H' ∧ H' gl = some (.lst (qs.map V.ref)) ∧ Paired (fun q (g : Nat × Str) => H' q = some (.tup [.int (g.1 : Nat), .str g.2])) qs gs ∧ gs.length ≤ i ∧ ∀ g ∈ gs, g.1 < ws.length ∧ g.2 ∈ T.classes)
    ⟨[], [], none, none, rfl, f0.trans f1, f1.keep _ _ nga upd_same, .nil, Nat.le_refl _, fun _ z => nomatch z⟩ ?_ ?_⟩
  · rintro i σ H' hi ⟨qs, gs, v4, v5, rfl, fd, hgq, hP, hlen, hall⟩
    have kp := fd.kp hF
    obtain ⟨us, hwa, hus⟩ := hW.kp kp
    have hul : us.length = ws.length := Paired.length hus
    have hlw : ((us.map V.ref).length : Nat) = ws.length := by rw [List.length_map, hul]
    refine ⟨_, rfl, wa, _, rfl, .inr (SqT.of hwa), _, _, rfl, rfl, ?_⟩
    refine ⟨_, rfl, _, rfl, wa, _, rfl, .inr (SqT.of hwa), a, _, rfl, fd.feed, by omega, by omega, fun r2 H2 f2 r20 r21 => ⟨by show 2 ≤ sizeLine; decide, fun l hl => ?_⟩⟩
    have nla : l ≠ a := f2.feed.ne hl
    have f3 : Fd a H2 (upd H2 l (.lst [.int (((us.map V.ref).length : Nat) - 1), .int r2])) := Fd.of f2.feed (Same.upd hl _)
    refine ⟨_, rfl, a, 2, rfl, f3.feed, by decide, by decide, fun r4 H4 f4 r40 r41 => ?_⟩
    obtain ⟨v, hv, hv0, hv1⟩ := two_at (P := fun v => 0 ≤ v ∧ v < (ws.length : Nat)) r40 r41 (x := ((us.map V.ref).length : Nat) - 1) (y := r2) ⟨by omega, by omega⟩ ⟨r20, by omega⟩
    obtain ⟨j, rfl⟩ := Int.eq_ofNat_of_zero_le hv0
    refine ⟨l, _, r4, _, rfl, rfl, SqL.of (f4.keep _ _ nla upd_same), hv, ?_⟩
    have f24 : Fd a H' H4 := f2.trans (f3.trans f4)
    have fd4 := fd.trans f24
    obtain ⟨ca, tt, ts, hta, hca, _, _⟩ := hT.kp (fd4.kp hF)
    have hg4 := f24.keep _ _ nga hgq
    refine ⟨_, rfl, .inl ⟨rfl, _, SqL.of hg4⟩, _, rfl, _, rfl, ta, _, 0, _, rfl, rfl, SqT.of hta, at0, _, rfl, _, rfl, ta, _, 0, _, rfl, rfl, SqT.of hta, at0, ca, _, rfl, .inr hca.sq, a, _, rfl, fd4.feed, by rw [List.length_map]; omega, by rw [List.length_map]; omega, fun r5 H5 f5 r50 r51 => ?_⟩
    rw [List.length_map] at r51
    obtain ⟨c, hc, hat⟩ := at_map r50 r51
    refine ⟨ca, _, r5, _, rfl, rfl, (hca.kp (f5.kp fd4.feed)).sq, hat, by show 2 ≤ sizeLine; decide, fun t ht => ?_⟩
    have s1 : Same H5 (upd H5 t (.tup [.int (j : Nat), .str c])) := Same.upd ht _
    have fd5 := fd4.trans f5
    have hg5 := s1 _ _ (f5.keep _ _ nga hg4)
    have hql : qs.length = gs.length := Paired.length hP
    have h6 : (1000 : Nat) < sizeLine := by decide
    have t5 : Tups (upd H5 t (.tup [.int (j : Nat), .str c])) (upd (upd H5 t (.tup [.int (j : Nat), .str c])) gl (.lst (qs.map V.ref ++ [.ref t]))) := Tups.upd hg5 (fun _ z => nomatch z) _
    have t45 := ((f24.trans f5).kp fd.feed).tup
    refine ⟨gl, _, _, rfl, rfl, hg5, by rw [List.length_map]; omega, qs ++ [t], gs ++ [(j, c)], _, _, rfl, (fd5.trans (Fd.of fd5.feed s1)).upd hF hgn, by rw [upd_same, List.map_append]; rfl, Paired.snoc (Paired.mapP hP fun _ _ z => t5 _ _ (s1 _ _ (t45 _ _ z))) (t5 _ _ upd_same), by rw [List.length_append, List.length_singleton]; omega, ?_⟩
    intro g hg
    rcases List.mem_append.mp hg with hg | hg
    · exact hall g hg
    · rw [List.mem_singleton] at hg
      subst hg
      exact ⟨by show j < ws.length; omega, hc⟩
  · rintro σ H' ⟨qs, gs, v4, v5, rfl, fd, hgq, hP, hlen, hall⟩
    exact ⟨_, rfl, q gs gl H' fd ⟨qs, hgq, hP⟩ hall (by omega)⟩
end
end K50

/-! The law. -/
namespace K50
open PySem PySem.Spec PyProof.Rows L2
open M50 (Tr Pt Tb Tile Sg Lab)

theorem same_fd {H H1 H2 : Hp} {p : Addr} (s : Same H H1) (n : H p = none) (f : Fd p H1 H2) : Same H H2 := fun b o z => f.keep _ _ (ne_of_none z n) (s _ _ z)
theorem GlAt.fd {H H' : Hp} {a p : Addr} {gs : List (Nat × Str)} (h : GlAt H a gs) (hF : FeAt H p) (f : Fd p H H') : GlAt H' a gs := by
  obtain ⟨qs, h1, h2⟩ := h
  have t := (f.kp hF).tup
  obtain ⟨d, s, e, _⟩ := hF
  refine ⟨qs, f.keep _ _ (ne_of h1 e fun z => ?_) h1, Paired.mapP h2 fun _ _ z => t _ _ z⟩
  cases qs with
  | nil => cases z
  | cons q r => cases z
theorem GlAt.kpp {H H' : Hp} {a : Addr} {gs : List (Nat × Str)} (h : GlAt H a gs) (s : Same H H') : GlAt H' a gs := h.same s
theorem sql_same {K : PySem.W.Frag} {H H' : Hp} {a : Addr} {xs : List V} (h : SqL K H a xs) (s : Same H H') : SqL K H' a xs := by
  rcases h with h | h
  · refine .inl ?_
    rcases h with h | ⟨o, h⟩
    · exact .inl (s _ _ h)
    · exact .inr ⟨o, s _ _ h⟩
  · exact .inr h
theorem optV_isN (o : Option Int) : decide (optV o = .non) = decide (o = none) := by cases o <;> rfl
/-- how often the law goes round -/
theorem rounds (L : Int) : ∃ n : Nat, RgC 0 (if (if L < 6 then L else 6) > 2 then (if L < 6 then L else 6) else 2) 2 n ∧ n ≤ 3 := by
  have : ∃ M : Int, (if (if L < 6 then L else 6) > 2 then (if L < 6 then L else 6) else 2) = M ∧ (M = 2 ∨ M = 3 ∨ M = 4 ∨ M = 5 ∨ M = 6) := by
    refine ⟨_, rfl, ?_⟩
    split <;> split <;> omega
  obtain ⟨M, e, h⟩ := this
  rw [e]
  rcases h with h | h | h | h | h <;> subst h
  · exact ⟨1, ⟨by decide, by decide, by decide, by decide⟩, by decide⟩
  · exact ⟨2, ⟨by decide, by decide, by decide, by decide⟩, by decide⟩
  · exact ⟨2, ⟨by decide, by decide, by decide, by decide⟩, by decide⟩
  · exact ⟨3, ⟨by decide, by decide, by decide, by decide⟩, by decide⟩
  · exact ⟨3, ⟨by decide, by decide, by decide, by decide⟩, by decide⟩
/-- what `last` holds at the i-th size -/
noncomputable def lastV (T : Tb Str) (ws : List (Tr Str)) (gs : List (Nat × Str)) (f : List (Option Str)) : Nat → Option Int
  | 0 => some 0
  | i + 1 => M50.frontPrice T ws gs (f.take i)
theorem last_law {T : Tb Str} (ok : TOk T) {ws : List (Tr Str)} {gs : List (Nat × Str)} {f : List (Option Str)} (hg : ∀ g ∈ gs, g.2 ∈ T.classes) (hf : f.length = ws.length) {i : Nat} (hi : i ≤ ws.length) {v : Int}
    (e : M50.frontPrice T ws gs (f.take i) = some v) : ∃ u, lastV T ws gs f i = some u ∧ u ≤ v := by
  cases i with
  | zero => exact ⟨0, rfl, M50.front_nn ok.ok e⟩
  | succ i => exact M50.front_mono ok.ok hg (by omega) (by omega) e
/-- the first place of c -/
theorem first_at {c : Str} : ∀ {l : List Str}, c ∈ l → ∃ j : Nat, l[j]? = some c ∧ ∀ m, m < j → l[m]? ≠ some c
  | x :: r, h => by
    by_cases e : x = c
    · exact ⟨0, by rw [e]; rfl, fun m z => absurd z (Nat.not_lt_zero m)⟩
    · rcases List.mem_cons.mp h with h | h
      · exact absurd h.symm e
      · obtain ⟨j, h1, h2⟩ := first_at h
        refine ⟨j + 1, h1, fun m z => ?_⟩
        cases m with
        | zero => exact fun q => e (Option.some.inj q)
        | succ m => exact h2 m (by omega)
theorem optV_flat (o : Option Int) : flatV (optV o) = true := by cases o <;> rfl
theorem all_optV : ∀ l : List (Option Int), (l.map optV).all flatV = true
  | [] => rfl
  | o :: r => by rw [List.map_cons, List.all_cons, optV_flat, all_optV r]; rfl
theorem inV_none : ∀ l : List (Option Int), inV .non (l.map optV) = decide (none ∈ l)
  | [] => rfl
  | none :: r => by
    rw [decide_eq_true (List.mem_cons_self ..)]
    rfl
  | some v :: r => by
    have ih := inV_none r
    unfold inV at ih ⊢
    rw [List.map_cons, List.any_cons, ih]
    have : (none ∈ some v :: r) ↔ none ∈ r := ⟨fun h => (List.mem_cons.mp h).elim (fun z => nomatch z) id, List.mem_cons_of_mem _⟩
    rw [decide_eq_decide.mpr this]
    rfl
theorem ints_of : ∀ {l : List (Option Int)}, none ∉ l → l.map optV = (l.map fun o => o.getD 0).map V.int
  | [], _ => rfl
  | none :: r, h => absurd (List.mem_cons_self ..) h
  | some v :: r, h => by
    rw [List.map_cons, List.map_cons, List.map_cons, ← ints_of fun z => h (List.mem_cons_of_mem _ z)]
    rfl
theorem cut_take {α : Type} (g : α → V) (f : List α) {i : Nat} : cutV (f.map g) none (some (0 + (i : Int))) = (f.take i).map g := by
  have e : (0 : Int) + (i : Int) = (i : Nat) := by omega
  unfold cutV
  rw [e, HT.sIx_nat, HT.sIx_none, List.length_map, List.drop_zero, List.map_take]
  rw [show min i f.length - 0 = min i f.length by omega]
  by_cases h : i ≤ f.length
  · rw [Nat.min_eq_left h]
  · rw [Nat.min_eq_right (by omega), List.take_of_length_le (by rw [List.length_map]; omega), List.take_of_length_le (by rw [List.length_map]; omega)]
theorem rep_flat (n : Nat) : (List.replicate n [V.non]).flatten = (List.replicate n (none : Option Str)).map optS := by
  induction n with
  | zero => rfl
  | succ n ih => rw [List.replicate_succ, List.flatten_cons, ih, List.replicate_succ, List.map_cons]; rfl

section
variable {P : Program} {w : World} {K : PySem.W.Frag} {mg : Str → Option Value} {base : Heap}
def spLaw (K : PySem.W.Frag) : Sp := fun vs H Q _ => ∃ (a : Addr) (ns : List Int), vs = [.ref a] ∧ SqL K H a (ns.map V.int) ∧ ns.length ≤ 63 ∧ ∀ H' : Hp, Q (.bl true) H'
abbrev nLaw : List Str := ["script", "k", "table", "feed", "web", "goals", "some", "front", "last", "size", "fee", "told_labels", "due", "tree", "number", "cls"]
theorem scLaw : FnScope nLaw ["script"] (defScope sLaw) := ⟨rfl, rfl, rfl, by decide +kernel, rfl, by decide +kernel, by decide +kernel⟩
theorem ok_law {f g fe ft fw fg fp fl : Addr} {fd gd de dt dw dg dp dl : FuncData} (F : Fun K "law" "law" sLaw f fd) (X : Txt K w mg)
    (G : FnOk P w K mg base CX0 1 g gd ["feed", "many"] spTake) (bG : Binds K gd ["feed", "many"] []) (kG : PySem.W.keepIn K (.ref g) = true) (mG : mg "_law_take" = some (.ref g))
    (Fe : FnOk P w K mg base CX0 1 fe de ["script", "k"] (spFeed K)) (bE : Binds K de ["script", "k"] []) (kE : PySem.W.keepIn K (.ref fe) = true) (mE : mg "_law_feed" = some (.ref fe))
    (Ta : FnOk P w K mg base CX0 5 ft dt ["feed", "most"] spTable) (bT : Binds K dt ["feed", "most"] []) (kT : PySem.W.keepIn K (.ref ft) = true) (mT : mg "_law_table" = some (.ref ft))
    (We : FnOk P w K mg base CX0 5 fw dw ["feed", "many", "deep"] spWeb) (bW : Binds K dw ["feed", "many", "deep"] []) (kW : PySem.W.keepIn K (.ref fw) = true) (mW : mg "_law_web" = some (.ref fw))
    (Go : FnOk P w K mg base CX0 2 fg dg ["feed", "table", "web"] spLGoals) (bO : Binds K dg ["feed", "table", "web"] []) (kO : PySem.W.keepIn K (.ref fg) = true) (mO : mg "_law_goals" = some (.ref fg))
    (Fp : FnOk P w K mg base CX0 6 fp dp ["table", "web", "goals", "front"] spFront) (bP : Binds K dp ["table", "web", "goals", "front"] []) (kP : PySem.W.keepIn K (.ref fp) = true) (mP : mg "front_price" = some (.ref fp))
    (Wl : FnOk P w K mg base CX0 6 fl dl ["table", "web"] spWebLabels) (bL : Binds K dl ["table", "web"] []) (kL : PySem.W.keepIn K (.ref fl) = true) (mL : mg "web_labels" = some (.ref fl)) :
    FnOk P w K mg base CX0 7 f fd ["script"] (spLaw K) := by
  refine F.ok scLaw (fun vs H Q E h => ?_) (fun cdv A outer s H vs Q E hr h => ?_)
  · obtain ⟨a, ns, rfl, _⟩ := h
    rfl
  obtain ⟨a, ns, rfl, hS, n63, q⟩ := h
  have nd := scLaw.nd
  have hr1 : Room 1 _ := hr.mono (by decide)
  have hr2 : Room 2 _ := hr.mono (by decide)
  have hr5 : Room 5 _ := hr.mono (by decide)
  refine ⟨_, pss_cons (ps_for PassesOwn.never rfl (pi_range3 (by rfl) X.range (pa_cons pe_int (pa_cons (pe_callB (call_max2 rfl) (by rfl) X.max boot_max (pa_cons pe_int (pa_cons (pe_callB (call_min2 rfl) (by rfl) X.min boot_min (pa_cons pe_int (pa_cons (pe_callB call_len_seq (by rfl) X.len PySem.boot_len (pa_cons (pv 0) pa_nil)) pa_nil))) pa_nil))) (pa_cons pe_int pa_nil)))) (pg_name (i := 1) nd rfl (Or.inl rfl))
      (pss_cons (ps_set (i := 2) nd rfl (Or.inr rfl) (pe_call Ta hr5 rfl mT kT bT .nil pass0 (pa_cons (pe_call Fe hr1 rfl mE kE bE .nil pass0 (pa_cons (pv 0) (pa_cons (pv 1) pa_nil))) (pa_cons pe_int pa_nil))))
      (pss_cons (ps_set (i := 3) nd rfl (Or.inr rfl) (pe_call Fe hr1 rfl mE kE bE .nil pass0 (pa_cons (pv 0) (pa_cons (pe_op op_add (pv 1) pe_int) pa_nil))))
      (pss_cons (ps_set (i := 4) nd rfl (Or.inl rfl) (pe_call We hr5 rfl mW kW bW .nil pass0 (pa_cons (pv 3) (pa_cons (pe_op op_add pe_int (pe_call G hr1 rfl mG kG bG .nil pass0 (pa_cons (pv 3) (pa_cons pe_int pa_nil)))) (pa_cons pe_int pa_nil)))))
      (pss_cons (ps_set (i := 5) nd rfl (Or.inl rfl) (pe_call Go hr2 rfl mO kO bO .nil pass0 (pa_cons (pv 3) (pa_cons (pv 2) (pa_cons (pv 4) pa_nil)))))
      (pss_cons (ps_set (i := 6) nd rfl (Or.inr rfl) (pe_op op_catA (pe_tup (pa_cons pe_non pa_nil)) (pe_ix ix_tup (pv 2) pe_int (fun _ _ => rfl))))
      (pss_cons (ps_set (i := 7) nd rfl (Or.inl rfl) (pe_callTy call_tuple_of (by rfl) X.tuple bt_tuple (pa_cons
        (pe_lc (own := [("tree", 13)]) (g := gName 13) (tt := tYes) rfl nd (pi_tup (pv 4)) (blkOk_by (N := nLaw) (sc := defScope sLaw) (by decide +kernel))
          (fun _ _ _ _ _ => pg_name (i := 13) nd rfl (Or.inl rfl)) (fun _ _ _ _ _ => pts_nil)
          (fun _ _ _ _ _ => pe_ix (ix_tupK (K := K) rfl) (pv 6) (pe_call G hr1 rfl mG kG bG .nil pass0 (pa_cons (pv 3) (pa_cons (pe_callB (call_len_seqK (K := K) rfl) (by rfl) X.len PySem.boot_len (pa_cons (pv 6) pa_nil)) pa_nil))) (fun _ _ => rfl))) pa_nil)))
      (pss_cons (ps_set (i := 8) nd rfl (Or.inl rfl) pe_int)
      (pss_cons (ps_for PassesOwn.never rfl (pi_range1 (by rfl) X.range (pa_cons (pe_op op_add (pe_callB call_len_seq (by rfl) X.len PySem.boot_len (pa_cons (pv 4) pa_nil)) pe_int) pa_nil)) (pg_name (i := 9) nd rfl (Or.inl rfl))
        (pss_cons (ps_set (i := 10) nd rfl (Or.inl rfl) (pe_call Fp hr rfl mP kP bP .nil pass0 (pa_cons (pv 2) (pa_cons (pv 4) (pa_cons (pv 5) (pa_cons (pe_slice sl_tupA (pv 7) po_none (po_some (pv 9))) pa_nil))))))
        (pss_cons (ps_if (PW.pt (pw_and (pt_cmp (pc_isN (pv 8))) (pw_and1 (pt_cmp (pc_notN (pv 10)))))) (pss_one (ps_ret pe_bl)) pss_nil)
        (pss_cons (ps_if (PW.pt (pw_and (pt_cmp (pc_notN (pv 8))) (pw_and (pt_cmp (pc_notN (pv 10))) (pw_and1 (pt_cmpR op_lt (pv 10) (pv 8) (nomark _)))))) (pss_one (ps_ret pe_bl)) pss_nil)
        (pss_one (ps_set (i := 8) nd rfl (Or.inl rfl) (pv 10)))))))
      (pss_cons (ps_set (i := 11) nd rfl (Or.inr rfl) (pe_call Wl hr rfl mL kL bL .nil pass0 (pa_cons (pv 2) (pa_cons (pv 4) pa_nil))))
      (pss_cons (ps_setLc (i := 12) (own := [("number", 14), ("cls", 15)]) (g := gTup K 2 (gCons (gName 14) (gCons (gName 15) gNil))) (tt := tYes) rfl nd rfl rfl (sw_true rfl rfl rfl (by decide +kernel)) (pi_list (pv 5))
        (blkOk_by (N := nLaw) (sc := defScope sLaw) (by decide +kernel))
        (fun _ _ _ _ _ => pg_tupK (K := K) rfl rfl (pgs_cons (pg_name (i := 14) nd rfl (Or.inl rfl)) (pgs_cons (pg_name (i := 15) nd rfl (Or.inl rfl)) pgs_nil))) (fun _ _ _ _ _ => pts_nil)
        (fun _ _ _ _ _ => pe_ix (ix_tupK (K := K) rfl) (pe_ix (ix_listK (K := K) rfl) (pv 11) (pv 14) (fun _ _ => rfl)) (pe_tupIndex (pe_ix (ix_tupK (K := K) rfl) (pv 2) pe_int (fun _ _ => rfl)) (pa_cons (pv 15) pa_nil)) (fun _ _ => rfl)))
      (pss_cons (ps_set (i := 10) nd rfl (Or.inl rfl) (pe_call Fp hr rfl mP kP bP .nil pass0 (pa_cons (pv 2) (pa_cons (pv 4) (pa_cons (pv 5) (pa_cons (pe_op op_repA (pe_tup (pa_cons pe_non pa_nil)) (pe_callB call_len_seq (by rfl) X.len PySem.boot_len (pa_cons (pv 4) pa_nil))) pa_nil))))))
      (pss_one (ps_if (PW.pt (pw_or (PW.pt (pw_and (pt_cmpR op_in_seq pe_non (pv 12) (by rfl)) (pw_and1 (pt_cmp (pc_notN (pv 10)))))) (pw_or1 (PW.pt (pw_and (pt_cmpR op_notIn_seq pe_non (pv 12) (by rfl)) (pw_and1 (pt_cmpR op_ne (pv 10) (pe_callB (cr_sum rfl) (by rfl) X.sum boot_sum (pa_cons (pv 12) pa_nil)) (nomark _))))))))
        (pss_one (ps_ret pe_bl)) pss_nil))))))))))))))
    (pss_one (ps_ret pe_bl)), ?_⟩
  obtain ⟨n, hrg, hn3⟩ := rounds ((ns.map V.int).length : Nat)
  refine ⟨_, rfl, a, _, rfl, .inl hS, _, _, rfl, _, _, rfl, _, _, _, n, rfl, hrg, for_rangeC (lo := 0) (c := 2) (n := n) (fun i σ H' => ∃ v1 v2 v3 v4 v5 v6 v7 v8 v9 v10 v11 v12 v13 v14 v15 : Option V, σ = [some (.ref a), v1, v2, v3, v4, v5, v6, v7, v8, v9, v10, v11, v12, v13, v14, v15] ∧ Same H H')
    ⟨none, none, none, none, none, none, none, none, none, none, none, none, none, none, none, rfl, fun _ _ z => z⟩ ?_ ?_⟩
  · rintro i σ H0 hi ⟨v1, v2, v3, v4, v5, v6, v7, v8, v9, v10, v11, v12, v13, v14, v15, rfl, s0⟩
    refine ⟨_, rfl, _, rfl, a, ns, _, rfl, sql_same hS s0, by omega, by omega, fun p1 H1 s1 n1 f1 => ?_⟩
    refine ⟨p1, rfl, f1, fun T ta H2 d2 hT2 ok => ?_⟩
    have s02 : Same H0 H2 := same_fd s1 n1 d2
    have s2 := s0.trans s02
    refine ⟨_, rfl, _, rfl, _, _, rfl, rfl, a, ns, _, rfl, sql_same hS s2, by omega, by omega, fun p2 H3 s3 n3 f3 => ?_⟩
    have hT3 := hT2.same s3
    refine ⟨_, rfl, _, rfl, p2, 6, rfl, f3, by decide, by decide, fun r H4 d4 r0 r1 => ⟨_, _, rfl, rfl, ?_⟩⟩
    refine ⟨p2, _, rfl, d4.feed, by omega, by omega, fun ws wa H5 d5 hW5 wok hwl => ?_⟩
    have d35 := d4.trans d5
    have hT5 := hT3.kp (d35.kp f3)
    refine ⟨_, rfl, _, rfl, _, rfl, p2, ta, wa, T, ws, rfl, d35.feed, hT5, ok, hW5, by omega, by omega, fun gs gp H6 d6 hG6 hgs g100 => ?_⟩
    have d36 := d35.trans d6
    obtain ⟨ca, tt, ts, hta6, hca6, htt6, hts6⟩ := hT5.kp (d6.kp d35.feed)
    refine ⟨by show 1 ≤ sizeLine; decide, fun u hu => ?_⟩
    have s67 : Same H6 (upd H6 u (.tup [.non])) := Same.upd hu _
    refine ⟨_, rfl, ta, _, 0, _, rfl, rfl, SqT.of (s67 _ _ hta6), at0, u, ca, _, _, rfl, rfl, SqT.of upd_same, (hca6.same s67).sq, ?_, (fun z => nomatch z), (fun _ z => absurd (List.map_eq_nil_iff.mp z) ok.some), fun _ _ sp hsp => ?_⟩
    · have := ok.few
      have h6 : (1000 : Nat) < sizeLine := by decide
      rw [List.length_map, List.length_singleton]
      omega
    have f6 := d36.feed
    have hT6 : TbAt H6 ta T := ⟨ca, tt, ts, hta6, hca6, htt6, hts6⟩
    have hW6 := hW5.kp (d6.kp d35.feed)
    have sp78 : Same (upd H6 u (.tup [.non])) (upd (upd H6 u (.tup [.non])) sp (.tup ([V.non] ++ T.classes.map V.str))) := Same.upd hsp _
    have s68 := s67.trans sp78
    have hsp8 : (upd (upd H6 u (.tup [.non])) sp (.tup ([V.non] ++ T.classes.map V.str))) sp = some (.tup (V.non :: T.classes.map V.str)) := upd_same
    clear s67 sp78
    generalize upd (upd H6 u (.tup [.non])) sp (.tup ([V.non] ++ T.classes.map V.str)) = H8 at s68 hsp8 ⊢
    have f8 := f6.same s68
    obtain ⟨us, hwa8, hus8⟩ := hW6.same s68
    have hul : us.length = ws.length := Paired.length hus8
    have hcl : (V.non :: T.classes.map V.str).length = T.classes.length + 1 := by rw [List.length_cons, List.length_map]
    have wm := wok.many
    have cf := ok.few
    have h6 : (1000 : Nat) < sizeLine := by decide
    refine ⟨_, rfl, wa, rfl, ⟨_, SqT.of hwa8⟩, fun D hD => lc_tup (tt := tYes) (K := K) (a := wa) (xs := us.map V.ref) (fun i H' => Fd p2 H8 H' ∧ ∃ f : List (Option Str), H' D = some (.lst (f.map optS)) ∧ f.length = i)
      ⟨Fd.of f8 (Same.upd hD _), [], upd_same, rfl⟩ (fun i H' _ z => SqT.of ((z.1.kp f8).tup _ _ hwa8)) ?_ ?_⟩
    · rintro i x H' hx ⟨fd, f, hDf, hfl⟩
      have hil : i < (us.map V.ref).length := (List.getElem?_eq_some_iff.mp hx).1
      rw [List.length_map] at hil
      refine ⟨rfl, yesI ?_⟩
      have hsp' := (fd.kp f8).tup _ _ hsp8
      refine ⟨_, rfl, _, rfl, _, rfl, sp, _, rfl, .inr (SqT.of hsp'), p2, _, rfl, fd.feed, by omega, by omega, fun r H9 d9 r0 r1 => ?_⟩
      obtain ⟨o, ho⟩ : ∃ o : Option Str, atI (V.non :: T.classes.map V.str) r = some (optS o) := by
        obtain ⟨m, rfl⟩ := Int.eq_ofNat_of_zero_le r0
        cases m with
        | zero => exact ⟨none, at0⟩
        | succ m =>
          have hm : m < T.classes.length := by omega
          refine ⟨some T.classes[m], atI_nat ?_⟩
          rw [List.getElem?_cons_succ, List.getElem?_map, List.getElem?_eq_getElem hm]
          rfl
      refine ⟨sp, _, r, _, rfl, rfl, SqT.of ((d9.kp fd.feed).tup _ _ hsp'), ho, ?_⟩
      refine ⟨_, d9.keep _ _ (f8.ne hD) hDf, by rw [List.length_map]; omega, (fd.trans d9).upd f8 hD, f ++ [o], by rw [upd_same, List.map_append]; rfl, by rw [List.length_append, hfl]; rfl⟩
    rintro H9 ⟨d9, f, hDf, hfl⟩
    rw [List.length_map, hul] at hfl
    refine ⟨D, _, rfl, .inl ⟨SqL.of hDf, fun fr hfr => ?_⟩⟩
    have hfr10 : FrAt (upd H9 fr (.tup (f.map optS))) fr f := upd_same
    have s910 : Same H9 (upd H9 fr (.tup (f.map optS))) := Same.upd hfr _
    generalize upd H9 fr (.tup (f.map optS)) = H10 at s910 hfr10 ⊢
    have hT : TbAt H10 ta T := ((hT6.same s68).kp (d9.kp f8)).same s910
    have hW : WbAt H10 wa ws := ((hW6.same s68).kp (d9.kp f8)).same s910
    have hG : GlAt H10 gp gs := ((hG6.same s68).fd f8 d9).same s910
    have s10 : Same H H10 := s2.trans ((same_fd ((same_fd s3 n3 d36).trans s68) n3 d9).trans s910)
    clear hDf d9 hus8 hwa8 f8 hsp8 s68 hW6 hT6 f6 hta6 hca6 htt6 hts6 hG6 d36 d6 hT5 d35 hW5 d5 d4 f3 hT3 s3 s2 s02 hT2 d2 f1 s1
    obtain ⟨us2, hwa, hus2⟩ := id hW
    have hul2 : us2.length = ws.length := Paired.length hus2
    have hml : (us2.map V.ref).length = ws.length := by rw [List.length_map, hul2]
    have hgc : ∀ g ∈ gs, g.2 ∈ T.classes := fun g z => (hgs g z).2
    have hgl : ∀ g ∈ gs, g.1 < ws.length := fun g z => (hgs g z).1
    refine ⟨_, rfl, wa, _, rfl, .inr (SqT.of hwa), _, _, rfl, rfl, _, rfl, by omega, by omega, for_range (lo := 0) (fun j σ H' => ∃ w9 w10 : Option V, σ = [some (.ref a), some (.int (0 + (i : Nat) * 2)), some (.ref ta), some (.ref p2), some (.ref wa), some (.ref gp), some (.ref sp), some (.ref fr), some (optV (lastV T ws gs f j)), w9, w10, v11, v12, v13, v14, v15] ∧ Same H10 H')
      ⟨v9, v10, rfl, fun _ _ z => z⟩ ?_ ?_⟩
    · rintro j σ H' hj ⟨w9, w10, rfl, sA⟩
      have hj' : j ≤ ws.length := by omega
      refine ⟨_, rfl, _, rfl, _, rfl, _, rfl, _, rfl, _, rfl, fr, _, rfl, SqT.of (sA _ _ hfr10), fun hw => ?g1, fun hw p hp => ?g2⟩
      case' g1 => refine ⟨ta, wa, gp, fr, T, ws, gs, f.take j, rfl, hT.same sA, ok, hW.same sA, wok, hG.same sA, hgl, ?f1, fun H3 sC' => ?t1⟩
      case' g2 =>
        have sB : Same H' (upd H' p (.tup (cutV (f.map optS) none (some (0 + (j : Nat)))))) := Same.upd hp _
        refine ⟨ta, wa, gp, p, T, ws, gs, f.take j, rfl, hT.same (sA.trans sB), ok, hW.same (sA.trans sB), wok, hG.same (sA.trans sB), hgl, ?f2, fun H3 sC' => ?t2⟩
      case f1 =>
        have e := hw.2
        rw [List.length_map, show (0 : Int) + (j : Int) = (j : Nat) by omega, HT.sIx_nat] at e
        rw [List.take_of_length_le (by omega)]
        exact sA _ _ hfr10
      case f2 =>
        show upd H' p _ p = _
        rw [upd_same, cut_take]
      all_goals
        have sC : Same H10 H3 := by first | exact sA.trans sC' | exact sA.trans (sB.trans sC')
        have rest : ∃ w9' w10' : Option V, [some (V.ref a), some (.int (0 + (i : Nat) * 2)), some (.ref ta), some (.ref p2), some (.ref wa), some (.ref gp), some (.ref sp), some (.ref fr), some (optV (M50.frontPrice T ws gs (f.take j))), some (.int (0 + (j : Nat))), some (optV (M50.frontPrice T ws gs (f.take j))), v11, v12, v13, v14, v15] = [some (V.ref a), some (.int (0 + (i : Nat) * 2)), some (.ref ta), some (.ref p2), some (.ref wa), some (.ref gp), some (.ref sp), some (.ref fr), some (optV (lastV T ws gs f (j + 1))), w9', w10', v11, v12, v13, v14, v15] ∧ Same H10 H3 := ⟨_, _, rfl, sC⟩
        obtain ⟨lv, el⟩ : ∃ lv, lastV T ws gs f j = lv := ⟨_, rfl⟩
        obtain ⟨fv, ef⟩ : ∃ fv, M50.frontPrice T ws gs (f.take j) = fv := ⟨_, rfl⟩
        cases lv with
        | none =>
          cases fv with
          | none =>
            refine ⟨_, rfl, _, rfl, ifY (by rw [el]; rfl) ⟨_, rfl, _, rfl, ifN (by rw [ef]; rfl) ?_⟩⟩
            exact ⟨_, rfl, _, rfl, ifN (by rw [el]; rfl) (ifN rfl ⟨_, rfl, rest⟩)⟩
          | some v =>
            obtain ⟨u2, e2, _⟩ := last_law ok hgc hfl hj' ef
            rw [el] at e2
            cases e2
        | some l =>
          refine ⟨_, rfl, _, rfl, ifN (by rw [el]; rfl) (ifN rfl ?_)⟩
          refine ⟨_, rfl, _, rfl, ifY (by rw [el]; rfl) ?_⟩
          cases fv with
          | none => exact ⟨_, rfl, _, rfl, ifN (by rw [ef]; rfl) (ifN rfl ⟨_, rfl, rest⟩)⟩
          | some v =>
            obtain ⟨u2, e2, hle⟩ := last_law ok hgc hfl hj' ef
            rw [el] at e2
            cases e2
            refine ⟨_, rfl, _, rfl, ifY (by rw [ef]; rfl) ?_⟩
            exact ⟨_, rfl, _, rfl, v, l, by rw [ef]; rfl, by rw [el]; rfl, _, rfl, ifN (decide_eq_false (by omega)) ⟨_, rfl, rest⟩⟩
    · rintro σ H' ⟨w9, w10, rfl, sA⟩
      refine ⟨_, rfl, _, rfl, ta, wa, T, ws, rfl, hT.same sA, ok, hW.same sA, wok, fun tl H11 s11 _ hTl => ?_⟩
      have sB := sA.trans s11
      obtain ⟨qs, hgq, hP⟩ := hG.same sB
      have hql : qs.length = gs.length := Paired.length hP
      have hst : (M50.webLabels T ws []).length = ws.length := by rw [M50.webLabels_len, List.length_nil, Nat.zero_add]
      generalize hsd : M50.webLabels T ws [] = st at hTl hst
      refine ⟨_, rfl, gp, rfl, ⟨_, SqL.of hgq⟩, fun D hD => lc_list (K := K) (a := gp) (xs := qs.map V.ref) (fun m H2 => Same H11 H2 ∧ H2 D = some (.lst ((M50.dueOf st (gs.take m)).map optV)))
        ⟨Same.upd hD _, upd_same⟩ (fun m H2 _ z => SqL.of (z.1 _ _ hgq)) ?_ ?_⟩
      · rintro m x H2 hx ⟨s2, hD2⟩
        rw [List.getElem?_map] at hx
        obtain ⟨q', hqi, rfl⟩ := Option.map_eq_some_iff.mp hx
        obtain ⟨g, hgi, hgq'⟩ := Paired.at' hP hqi
        obtain ⟨rs, htl, hR⟩ := hTl.same s2
        obtain ⟨hg1, hg2⟩ := hgs g (List.mem_of_getElem? hgi)
        have hl : st[g.1]? = some st[g.1] := List.getElem?_eq_getElem (by omega)
        obtain ⟨r', hri, hrr⟩ := Paired.at_ hR hl
        obtain ⟨ca, tt, ts, hta, hca, _, _⟩ := hT.same (sB.trans s2)
        obtain ⟨jj, hj1, hj2⟩ := first_at hg2
        have hgl' := (List.getElem?_eq_some_iff.mp hgi).1
        refine ⟨q', _, rfl, SqT.of (s2 _ _ hgq'), rfl, _, _, rfl, _, _, rfl, rfl, rfl, yesI ?_⟩
        refine ⟨_, rfl, _, rfl, tl, _, _, _, rfl, rfl, SqL.of htl, atI_nat (by rw [List.getElem?_map, hri]; rfl), ?_⟩
        refine ⟨_, rfl, ta, _, 0, _, rfl, rfl, SqT.of hta, at0, ca, T.classes, rfl, hca, _, rfl, g.2, jj, rfl, hca, hj1, hj2, ?_⟩
        refine ⟨r', _, _, _, rfl, rfl, SqT.of hrr, atI_nat (by rw [rowOf, List.getElem?_map, hj1]; rfl), ?_⟩
        refine ⟨_, hD2, ?_, fun b o z => ?_, ?_⟩
        · rw [List.length_map, M50.dueOf, List.length_map, List.length_take]
          omega
        · rw [upd_ne (ne_of_none z hD)]
          exact s2 _ _ z
        · rw [upd_same, take_succ hgi, M50.dueOf, M50.dueOf, List.map_append, List.map_append]
          show some (HO.lst (_ ++ [optV (M50.look st[g.1] g.2)])) = some (HO.lst (_ ++ [optV (M50.look ((st[g.1]?).getD []) g.2)]))
          rw [hl]
          rfl
      · rintro H12 ⟨s12, hD12⟩
        rw [List.length_map, hql, List.take_length] at hD12
        have sE : Same H10 H12 := sB.trans s12
        refine ⟨_, rfl, _, rfl, _, rfl, by show 1 ≤ sizeLine; decide, fun u2 hu2 => ?_⟩
        have s13 : Same H12 (upd H12 u2 (.tup [.non])) := Same.upd hu2 _
        have sF := sE.trans s13
        have hD13 := s13 _ _ hD12
        have hu13 : upd H12 u2 (.tup [V.non]) u2 = some (.tup [V.non]) := upd_same
        generalize upd H12 u2 (.tup [V.non]) = H13 at s13 sF hD13 hu13 ⊢
        refine ⟨_, rfl, wa, _, rfl, .inr (SqT.of (sF _ _ hwa)), u2, _, _, rfl, rfl, SqT.of hu13, (fun z => nomatch z), by omega, by omega, by decide, fun hk => ?kg1, fun hk p hp => ?kg2⟩
        case' kg1 =>
          refine ⟨ta, wa, gp, u2, T, ws, gs, List.replicate ws.length none, rfl, hT.same sF, ok, hW.same sF, wok, hG.same sF, hgl, ?kf1, fun H3 sC' => ?kt1⟩
        case' kg2 =>
          have sG : Same H13 (upd H13 p (.tup (List.replicate (((us2.map V.ref).length : Nat) : Int).toNat [V.non]).flatten)) := Same.upd hp _
          refine ⟨ta, wa, gp, p, T, ws, gs, List.replicate ws.length none, rfl, hT.same (sF.trans sG), ok, hW.same (sF.trans sG), wok, hG.same (sF.trans sG), hgl, ?kf2, fun H3 sC' => ?kt2⟩
        case kf1 =>
          show H13 u2 = _
          rw [show ws.length = 1 by omega]
          exact hu13
        case kf2 =>
          show upd H13 p _ p = _
          rw [upd_same, rep_flat, show (((us2.map V.ref).length : Nat) : Int).toNat = ws.length by omega]
        all_goals
          have sH : Same H13 H3 := by first | exact sC' | exact sG.trans sC'
          have hD3 := sH _ _ hD13
          have fin : ∃ v1 v2 v3 v4 v5 v6 v7 v8 v9' v10' v11' v12' v13' v14' v15' : Option V, [some (V.ref a), some (.int (0 + (i : Nat) * 2)), some (.ref ta), some (.ref p2), some (.ref wa), some (.ref gp), some (.ref sp), some (.ref fr), some (optV (lastV T ws gs f (((us2.map V.ref).length : Nat) + 1 : Int).toNat)), w9, some (optV (M50.frontPrice T ws gs (List.replicate ws.length none))), some (.ref tl), some (.ref D), v13, v14, v15] = [some (V.ref a), v1, v2, v3, v4, v5, v6, v7, v8, v9', v10', v11', v12', v13', v14', v15'] ∧ Same H H3 :=
            ⟨_, _, _, _, _, _, _, _, _, _, _, _, _, _, _, rfl, s10.trans (sF.trans sH)⟩
          obtain ⟨fv, ef⟩ : ∃ fv, M50.frontPrice T ws gs (List.replicate ws.length none) = fv := ⟨_, rfl⟩
          have ef' := ef
          rw [M50.front_none, hsd] at ef'
          by_cases hn : none ∈ M50.dueOf st gs
          · rw [M50.goals_none gs 0 hn] at ef'
            refine ⟨_, rfl, D, _, rfl, .inl (SqL.of hD3), rfl, all_optV _, _, rfl, ifY (by show inV _ _ = true; rw [inV_none]; exact decide_eq_true hn) ?_⟩
            refine ⟨_, rfl, _, rfl, ifN (by rw [ef, ← ef']; rfl) ?_⟩
            exact ⟨_, rfl, D, _, rfl, .inl (SqL.of hD3), rfl, all_optV _, _, rfl, ifN (by show (!inV _ _) = false; rw [inV_none, decide_eq_true hn]; rfl) (ifN rfl fin)⟩
          · rw [M50.goals_some gs 0 hn, Int.zero_add] at ef'
            refine ⟨_, rfl, D, _, rfl, .inl (SqL.of hD3), rfl, all_optV _, _, rfl, ifN (by show inV _ _ = false; rw [inV_none]; exact decide_eq_false hn) (ifN rfl ?_)⟩
            refine ⟨_, rfl, D, _, rfl, .inl (SqL.of hD3), rfl, all_optV _, _, rfl, ifY (by show (!inV _ _) = true; rw [inV_none, decide_eq_false hn]; rfl) ?_⟩
            rw [ints_of hn] at hD3
            exact ⟨_, rfl, _, rfl, D, _, rfl, SqL.of hD3, by rw [ef, ← ef']; rfl, _, rfl, ifN (by rw [ef, ← ef']; show (!decide (V.int _ = V.int _)) = false; rw [decide_eq_true rfl]; rfl) fin⟩
  · rintro σ H' ⟨v1, v2, v3, v4, v5, v6, v7, v8, v9, v10, v11, v12, v13, v14, v15, rfl, s0⟩
    exact q H'
end
end K50

/-! The program's top and the end. -/
namespace K50
open PySem PySem.Spec PyProof.Rows L2
theorem all_mk {l : PySem.W.OpenLaw} {w : World} {K : PySem.W.Frag} {h : Heap} {mg : Str → Option Value} {fa dS f1 f2 f3 f4 f5 f6 f7 f8 f9 f10 f11 f12 f13 f14 f15 f16 f17 f18 f19 f20 f21 : Addr} {es : Array DictEntry} {n : Nat} {v1 v2 v3 v4 : Value} (X : K.In h) (G : h.Ns mainGlobals mg) (hfa : mg "law" = some (.ref fa))
    {od1 an1 od2 an2 od3 an3 od4 an4 od5 an5 od6 an6 od7 an7 od8 an8 od9 an9 od10 an10 od11 an11 od12 an12 od13 an13 od14 an14 od15 an15 od16 an16 od17 an17 od18 an18 od19 an19 od20 an20 od21 an21 : Option Addr} {sl1 sl2 sl3 sl4 sl5 sl6 sl7 sl8 sl9 sl10 sl11 sl12 sl13 sl14 sl15 sl16 sl17 sl18 sl19 sl20 sl21 : Array (Option Value)} {oc1 kV1 dc1 pm1 cd1 ct1 oc2 kV2 dc2 pm2 cd2 ct2 oc3 kV3 dc3 pm3 cd3 ct3 oc4 kV4 dc4 pm4 cd4 ct4 oc5 kV5 dc5 pm5 cd5 ct5 oc6 kV6 dc6 pm6 cd6 ct6 oc7 kV7 dc7 pm7 cd7 ct7 oc8 kV8 dc8 pm8 cd8 ct8 oc9 kV9 dc9 pm9 cd9 ct9 oc10 kV10 dc10 pm10 cd10 ct10 oc11 kV11 dc11 pm11 cd11 ct11 oc12 kV12 dc12 pm12 cd12 ct12 oc13 kV13 dc13 pm13 cd13 ct13 oc14 kV14 dc14 pm14 cd14 ct14 oc15 kV15 dc15 pm15 cd15 ct15 oc16 kV16 dc16 pm16 cd16 ct16 oc17 kV17 dc17 pm17 cd17 ct17 oc18 kV18 dc18 pm18 cd18 ct18 oc19 kV19 dc19 pm19 cd19 ct19 oc20 kV20 dc20 pm20 cd20 ct20 oc21 kV21 dc21 pm21 cd21 ct21 : Value}
    (a1 : PySem.W.nsIn K mainGlobals "parts_of" = some (some (.ref f1))) (l1 : K.lookup f1 = some ⟨oc1, od1, .func (PySem.W.fnOf "parts_of" "parts_of" (defArgs sParts) (defBody sParts) (defScope sParts) .none kV1 dc1 pm1 an1 cd1 ct1), sl1⟩)
    (c1 : PySem.W.codeIn K cd1 "parts_of" = true) (k1 : PySem.W.keepIn K (.ref f1) = true)
    (a2 : PySem.W.nsIn K mainGlobals "laid" = some (some (.ref f2))) (l2 : K.lookup f2 = some ⟨oc2, od2, .func (PySem.W.fnOf "laid" "laid" (defArgs sLaid) (defBody sLaid) (defScope sLaid) .none kV2 dc2 pm2 an2 cd2 ct2), sl2⟩)
    (c2 : PySem.W.codeIn K cd2 "laid" = true) (k2 : PySem.W.keepIn K (.ref f2) = true)
    (a3 : PySem.W.nsIn K mainGlobals "lessen" = some (some (.ref f3))) (l3 : K.lookup f3 = some ⟨oc3, od3, .func (PySem.W.fnOf "lessen" "lessen" (defArgs sLessen) (defBody sLessen) (defScope sLessen) .none kV3 dc3 pm3 an3 cd3 ct3), sl3⟩)
    (c3 : PySem.W.codeIn K cd3 "lessen" = true) (k3 : PySem.W.keepIn K (.ref f3) = true)
    (a4 : PySem.W.nsIn K mainGlobals "passed" = some (some (.ref f4))) (l4 : K.lookup f4 = some ⟨oc4, od4, .func (PySem.W.fnOf "passed" "passed" (defArgs sPassed) (defBody sPassed) (defScope sPassed) .none kV4 dc4 pm4 an4 cd4 ct4), sl4⟩)
    (c4 : PySem.W.codeIn K cd4 "passed" = true) (k4 : PySem.W.keepIn K (.ref f4) = true)
    (a5 : PySem.W.nsIn K mainGlobals "cost_of" = some (some (.ref f5))) (l5 : K.lookup f5 = some ⟨oc5, od5, .func (PySem.W.fnOf "cost_of" "cost_of" (defArgs sCost) (defBody sCost) (defScope sCost) .none kV5 dc5 pm5 an5 cd5 ct5), sl5⟩)
    (c5 : PySem.W.codeIn K cd5 "cost_of" = true) (k5 : PySem.W.keepIn K (.ref f5) = true)
    (a6 : PySem.W.nsIn K mainGlobals "under" = some (some (.ref f6))) (l6 : K.lookup f6 = some ⟨oc6, od6, .func (PySem.W.fnOf "under" "under" (defArgs sUnder) (defBody sUnder) (defScope sUnder) .none kV6 dc6 pm6 an6 cd6 ct6), sl6⟩)
    (c6 : PySem.W.codeIn K cd6 "under" = true) (k6 : PySem.W.keepIn K (.ref f6) = true)
    (a7 : PySem.W.nsIn K mainGlobals "label_in" = some (some (.ref f7))) (l7 : K.lookup f7 = some ⟨oc7, od7, .func (PySem.W.fnOf "label_in" "label_in" (defArgs sLabelIn) (defBody sLabelIn) (defScope sLabelIn) .none kV7 dc7 pm7 an7 cd7 ct7), sl7⟩)
    (c7 : PySem.W.codeIn K cd7 "label_in" = true) (k7 : PySem.W.keepIn K (.ref f7) = true)
    (a8 : PySem.W.nsIn K mainGlobals "web_labels" = some (some (.ref f8))) (l8 : K.lookup f8 = some ⟨oc8, od8, .func (PySem.W.fnOf "web_labels" "web_labels" (defArgs sWebLabels) (defBody sWebLabels) (defScope sWebLabels) .none kV8 dc8 pm8 an8 cd8 ct8), sl8⟩)
    (c8 : PySem.W.codeIn K cd8 "web_labels" = true) (k8 : PySem.W.keepIn K (.ref f8) = true)
    (a9 : PySem.W.nsIn K mainGlobals "free_label" = some (some (.ref f9))) (l9 : K.lookup f9 = some ⟨oc9, od9, .func (PySem.W.fnOf "free_label" "free_label" (defArgs sFree) (defBody sFree) (defScope sFree) .none kV9 dc9 pm9 an9 cd9 ct9), sl9⟩)
    (c9 : PySem.W.codeIn K cd9 "free_label" = true) (k9 : PySem.W.keepIn K (.ref f9) = true)
    (a10 : PySem.W.nsIn K mainGlobals "goals_price" = some (some (.ref f10))) (l10 : K.lookup f10 = some ⟨oc10, od10, .func (PySem.W.fnOf "goals_price" "goals_price" (defArgs sGoals) (defBody sGoals) (defScope sGoals) .none kV10 dc10 pm10 an10 cd10 ct10), sl10⟩)
    (c10 : PySem.W.codeIn K cd10 "goals_price" = true) (k10 : PySem.W.keepIn K (.ref f10) = true)
    (a11 : PySem.W.nsIn K mainGlobals "front_price" = some (some (.ref f11))) (l11 : K.lookup f11 = some ⟨oc11, od11, .func (PySem.W.fnOf "front_price" "front_price" (defArgs sFront) (defBody sFront) (defScope sFront) .none kV11 dc11 pm11 an11 cd11 ct11), sl11⟩)
    (c11 : PySem.W.codeIn K cd11 "front_price" = true) (k11 : PySem.W.keepIn K (.ref f11) = true)
    (a12 : PySem.W.nsIn K mainGlobals "_law_feed" = some (some (.ref f12))) (l12 : K.lookup f12 = some ⟨oc12, od12, .func (PySem.W.fnOf "_law_feed" "_law_feed" (defArgs sFeed) (defBody sFeed) (defScope sFeed) .none kV12 dc12 pm12 an12 cd12 ct12), sl12⟩)
    (c12 : PySem.W.codeIn K cd12 "_law_feed" = true) (k12 : PySem.W.keepIn K (.ref f12) = true)
    (a13 : PySem.W.nsIn K mainGlobals "_law_take" = some (some (.ref f13))) (l13 : K.lookup f13 = some ⟨oc13, od13, .func (PySem.W.fnOf "_law_take" "_law_take" (defArgs sTake) (defBody sTake) (defScope sTake) .none kV13 dc13 pm13 an13 cd13 ct13), sl13⟩)
    (c13 : PySem.W.codeIn K cd13 "_law_take" = true) (k13 : PySem.W.keepIn K (.ref f13) = true)
    (a14 : PySem.W.nsIn K mainGlobals "_law_unlike" = some (some (.ref f14))) (l14 : K.lookup f14 = some ⟨oc14, od14, .func (PySem.W.fnOf "_law_unlike" "_law_unlike" (defArgs sUnlike) (defBody sUnlike) (defScope sUnlike) .none kV14 dc14 pm14 an14 cd14 ct14), sl14⟩)
    (c14 : PySem.W.codeIn K cd14 "_law_unlike" = true) (k14 : PySem.W.keepIn K (.ref f14) = true)
    (a15 : PySem.W.nsIn K mainGlobals "_law_inner" = some (some (.ref f15))) (l15 : K.lookup f15 = some ⟨oc15, od15, .func (PySem.W.fnOf "_law_inner" "_law_inner" (defArgs sInner) (defBody sInner) (defScope sInner) .none kV15 dc15 pm15 an15 cd15 ct15), sl15⟩)
    (c15 : PySem.W.codeIn K cd15 "_law_inner" = true) (k15 : PySem.W.keepIn K (.ref f15) = true)
    (a16 : PySem.W.nsIn K mainGlobals "_law_pattern" = some (some (.ref f16))) (l16 : K.lookup f16 = some ⟨oc16, od16, .func (PySem.W.fnOf "_law_pattern" "_law_pattern" (defArgs sPattern) (defBody sPattern) (defScope sPattern) .none kV16 dc16 pm16 an16 cd16 ct16), sl16⟩)
    (c16 : PySem.W.codeIn K cd16 "_law_pattern" = true) (k16 : PySem.W.keepIn K (.ref f16) = true)
    (a17 : PySem.W.nsIn K mainGlobals "_law_table" = some (some (.ref f17))) (l17 : K.lookup f17 = some ⟨oc17, od17, .func (PySem.W.fnOf "_law_table" "_law_table" (defArgs sTable) (defBody sTable) (defScope sTable) .none kV17 dc17 pm17 an17 cd17 ct17), sl17⟩)
    (c17 : PySem.W.codeIn K cd17 "_law_table" = true) (k17 : PySem.W.keepIn K (.ref f17) = true)
    (a18 : PySem.W.nsIn K mainGlobals "_law_tree" = some (some (.ref f18))) (l18 : K.lookup f18 = some ⟨oc18, od18, .func (PySem.W.fnOf "_law_tree" "_law_tree" (defArgs sTree) (defBody sTree) (defScope sTree) .none kV18 dc18 pm18 an18 cd18 ct18), sl18⟩)
    (c18 : PySem.W.codeIn K cd18 "_law_tree" = true) (k18 : PySem.W.keepIn K (.ref f18) = true)
    (a19 : PySem.W.nsIn K mainGlobals "_law_web" = some (some (.ref f19))) (l19 : K.lookup f19 = some ⟨oc19, od19, .func (PySem.W.fnOf "_law_web" "_law_web" (defArgs sWeb) (defBody sWeb) (defScope sWeb) .none kV19 dc19 pm19 an19 cd19 ct19), sl19⟩)
    (c19 : PySem.W.codeIn K cd19 "_law_web" = true) (k19 : PySem.W.keepIn K (.ref f19) = true)
    (a20 : PySem.W.nsIn K mainGlobals "_law_goals" = some (some (.ref f20))) (l20 : K.lookup f20 = some ⟨oc20, od20, .func (PySem.W.fnOf "_law_goals" "_law_goals" (defArgs sLawGoals) (defBody sLawGoals) (defScope sLawGoals) .none kV20 dc20 pm20 an20 cd20 ct20), sl20⟩)
    (c20 : PySem.W.codeIn K cd20 "_law_goals" = true) (k20 : PySem.W.keepIn K (.ref f20) = true)
    (a21 : PySem.W.nsIn K mainGlobals "law" = some (some (.ref f21))) (l21 : K.lookup f21 = some ⟨oc21, od21, .func (PySem.W.fnOf "law" "law" (defArgs sLaw) (defBody sLaw) (defScope sLaw) .none kV21 dc21 pm21 an21 cd21 ct21), sl21⟩)
    (c21 : PySem.W.codeIn K cd21 "law" = true) (k21 : PySem.W.keepIn K (.ref f21) = true)
    (z1 : PySem.W.nsIn K mainGlobals "len" = some none)
    (z2 : PySem.W.nsIn K mainGlobals "list" = some none)
    (z3 : PySem.W.nsIn K mainGlobals "int" = some none)
    (z4 : PySem.W.nsIn K mainGlobals "zip" = some none)
    (z5 : PySem.W.nsIn K mainGlobals "dict" = some none)
    (z6 : PySem.W.nsIn K mainGlobals "reversed" = some none)
    (z7 : PySem.W.nsIn K mainGlobals "tuple" = some none)
    (z8 : PySem.W.nsIn K mainGlobals "range" = some none)
    (z9 : PySem.W.nsIn K mainGlobals "enumerate" = some none)
    (z10 : PySem.W.nsIn K mainGlobals "max" = some none)
    (z11 : PySem.W.nsIn K mainGlobals "min" = some none)
    (z12 : PySem.W.nsIn K mainGlobals "sum" = some none)
    (aS : PySem.W.nsIn K mainGlobals "SIGNS" = some (some (.ref dS))) (lS : K.lookup dS = some ⟨.type "dict", none, .dict es n, #[]⟩) (kl : PySem.W.KeysLit w.params es.toList) (low : (dS == sysModules) = false)
    (s1 : PySem.W.nsIn K dS "turn" = some (some v1))
    (s2 : PySem.W.nsIn K dS "sum" = some (some v2))
    (s3 : PySem.W.nsIn K dS "less" = some (some v3))
    (s4 : PySem.W.nsIn K dS "by" = some (some v4))
    (n1 : PySem.W.nsIn K dS "num" = some none)
    (n2 : PySem.W.nsIn K dS "name" = some none)
    (n3 : PySem.W.nsIn K dS "piece" = some none) :
    ∃ fd : FuncData, (∀ (s : Shared) (v : Value), BindsTo s fd ⟨[v], []⟩ [("script", v)]) ∧ ∀ base : Heap, K.In base → base.Ns mainGlobals mg → FnOk l.prog w K mg base CX0 7 fa fd ["script"] (spLaw K) := by
  have e := hfa.symm.trans (PySem.W.mg_of X G a21)
  cases e
  have F1 := fun_mk (st := sParts) l1 c1 k1
  have b1 := F1.binds (ps := ["tree"]) fun _ _ _ _ _ _ us hl => match us, hl with | [_], _ => rfl
  have m1 := PySem.W.mg_of X G a1
  have F2 := fun_mk (st := sLaid) l2 c2 k2
  have b2 := F2.binds (ps := ["pattern", "tree"]) fun _ _ _ _ _ _ us hl => match us, hl with | [_, _], _ => rfl
  have m2 := PySem.W.mg_of X G a2
  have F3 := fun_mk (st := sLessen) l3 c3 k3
  have b3 := F3.binds (ps := ["label", "cls", "price"]) fun _ _ _ _ _ _ us hl => match us, hl with | [_, _, _], _ => rfl
  have m3 := PySem.W.mg_of X G a3
  have F4 := fun_mk (st := sPassed) l4 c4 k4
  have b4 := F4.binds (ps := ["table", "label"]) fun _ _ _ _ _ _ us hl => match us, hl with | [_, _], _ => rfl
  have m4 := PySem.W.mg_of X G a4
  have F5 := fun_mk (st := sCost) l5 c5 k5
  have b5 := F5.binds (ps := ["holes", "price", "known"]) fun _ _ _ _ _ _ us hl => match us, hl with | [_, _, _], _ => rfl
  have m5 := PySem.W.mg_of X G a5
  have F6 := fun_mk (st := sUnder) l6 c6 k6
  have b6 := F6.binds (ps := ["tree"]) fun _ _ _ _ _ _ us hl => match us, hl with | [_], _ => rfl
  have m6 := PySem.W.mg_of X G a6
  have F7 := fun_mk (st := sLabelIn) l7 c7 k7
  have b7 := F7.binds (ps := ["table", "tree", "stand"]) fun _ _ _ _ _ _ us hl => match us, hl with | [_, _, _], _ => rfl
  have m7 := PySem.W.mg_of X G a7
  have F8 := fun_mk (st := sWebLabels) l8 c8 k8
  have b8 := F8.binds (ps := ["table", "web"]) fun _ _ _ _ _ _ us hl => match us, hl with | [_, _], _ => rfl
  have m8 := PySem.W.mg_of X G a8
  have F9 := fun_mk (st := sFree) l9 c9 k9
  have b9 := F9.binds (ps := ["table"]) fun _ _ _ _ _ _ us hl => match us, hl with | [_], _ => rfl
  have m9 := PySem.W.mg_of X G a9
  have F10 := fun_mk (st := sGoals) l10 c10 k10
  have b10 := F10.binds (ps := ["stand", "goals"]) fun _ _ _ _ _ _ us hl => match us, hl with | [_, _], _ => rfl
  have m10 := PySem.W.mg_of X G a10
  have F11 := fun_mk (st := sFront) l11 c11 k11
  have b11 := F11.binds (ps := ["table", "web", "goals", "front"]) fun _ _ _ _ _ _ us hl => match us, hl with | [_, _, _, _], _ => rfl
  have m11 := PySem.W.mg_of X G a11
  have F12 := fun_mk (st := sFeed) l12 c12 k12
  have b12 := F12.binds (ps := ["script", "k"]) fun _ _ _ _ _ _ us hl => match us, hl with | [_, _], _ => rfl
  have m12 := PySem.W.mg_of X G a12
  have F13 := fun_mk (st := sTake) l13 c13 k13
  have b13 := F13.binds (ps := ["feed", "many"]) fun _ _ _ _ _ _ us hl => match us, hl with | [_, _], _ => rfl
  have m13 := PySem.W.mg_of X G a13
  have F14 := fun_mk (st := sUnlike) l14 c14 k14
  have b14 := F14.binds (ps := ["feed", "many"]) fun _ _ _ _ _ _ us hl => match us, hl with | [_, _], _ => rfl
  have m14 := PySem.W.mg_of X G a14
  have F15 := fun_mk (st := sInner) l15 c15 k15
  have b15 := F15.binds (ps := ["feed", "classes", "deep"]) fun _ _ _ _ _ _ us hl => match us, hl with | [_, _, _], _ => rfl
  have m15 := PySem.W.mg_of X G a15
  have F16 := fun_mk (st := sPattern) l16 c16 k16
  have b16 := F16.binds (ps := ["feed", "classes", "cls"]) fun _ _ _ _ _ _ us hl => match us, hl with | [_, _, _], _ => rfl
  have m16 := PySem.W.mg_of X G a16
  have F17 := fun_mk (st := sTable) l17 c17 k17
  have b17 := F17.binds (ps := ["feed", "most"]) fun _ _ _ _ _ _ us hl => match us, hl with | [_, _], _ => rfl
  have m17 := PySem.W.mg_of X G a17
  have F18 := fun_mk (st := sTree) l18 c18 k18
  have b18 := F18.binds (ps := ["feed", "names", "deep", "number"]) fun _ _ _ _ _ _ us hl => match us, hl with | [_, _, _, _], _ => rfl
  have m18 := PySem.W.mg_of X G a18
  have F19 := fun_mk (st := sWeb) l19 c19 k19
  have b19 := F19.binds (ps := ["feed", "many", "deep"]) fun _ _ _ _ _ _ us hl => match us, hl with | [_, _, _], _ => rfl
  have m19 := PySem.W.mg_of X G a19
  have F20 := fun_mk (st := sLawGoals) l20 c20 k20
  have b20 := F20.binds (ps := ["feed", "table", "web"]) fun _ _ _ _ _ _ us hl => match us, hl with | [_, _, _], _ => rfl
  have m20 := PySem.W.mg_of X G a20
  have F21 := fun_mk (st := sLaw) l21 c21 k21
  have T : Txt K w mg := ⟨PySem.W.mg_none_of X G z1, PySem.W.mg_none_of X G z2, PySem.W.mg_none_of X G z3, PySem.W.mg_none_of X G z4, PySem.W.mg_none_of X G z5, PySem.W.mg_none_of X G z6, PySem.W.mg_none_of X G z7, PySem.W.mg_none_of X G z8, PySem.W.mg_none_of X G z9, PySem.W.mg_none_of X G z10, PySem.W.mg_none_of X G z11, PySem.W.mg_none_of X G z12, dS, es, n, v1, v2, v3, v4, PySem.W.mg_of X G aS, ⟨lS, kl, low⟩, s1, s2, s3, s4, n1, n2, n3⟩
  refine ⟨PySem.W.fnOf "law" "law" (defArgs sLaw) (defBody sLaw) (defScope sLaw) .none kV21 dc21 pm21 an21 cd21 ct21, fun s v => .of_eq rfl, fun base _ _ => ?_⟩
  have Pt := ok_parts (P := l.prog) (w := w) (mg := mg) (base := base) F1 T
  have Ls := ok_lessen (P := l.prog) (w := w) (mg := mg) (base := base) F3 
  have Co := ok_cost (P := l.prog) (w := w) (mg := mg) (base := base) F5 
  have Un := ok_under (P := l.prog) (w := w) (mg := mg) (base := base) F6 b6 m6 Pt b1 k1 m1 3
  have La := ok_laid (P := l.prog) (w := w) (mg := mg) (base := base) F2 T b2 m2 3
  have Pa := ok_passed (P := l.prog) (w := w) (mg := mg) (base := base) F4 T Ls b3 k3 m3
  have Fr := ok_free (P := l.prog) (w := w) (mg := mg) (base := base) F9 
  have Gp := ok_goals (P := l.prog) (w := w) (mg := mg) (base := base) F10 
  have Li := ok_labelIn (P := l.prog) (w := w) (mg := mg) (base := base) F7 T Un b6 k6 m6 La b2 k2 m2 Co b5 k5 m5 Ls b3 k3 m3 Pa b4 k4 m4
  have Wl := ok_webLabels (P := l.prog) (w := w) (mg := mg) (base := base) F8 T Li b7 k7 m7
  have Fp := ok_front (P := l.prog) (w := w) (mg := mg) (base := base) F11 T Li b7 k7 m7 Fr b9 k9 m9 Pa b4 k4 m4 Gp b10 k10 m10
  have Fe := ok_feed (P := l.prog) (w := w) (mg := mg) (base := base) F12 T
  have Ta := ok_take (P := l.prog) (w := w) (mg := mg) (base := base) F13 
  have Ul := ok_unlike (P := l.prog) (w := w) (mg := mg) (base := base) F14 T Ta b13 k13 m13
  have In := ok_inner (P := l.prog) (w := w) (mg := mg) (base := base) F15 T b15 m15 Ta b13 k13 m13 2
  have Pn := ok_pattern (P := l.prog) (w := w) (mg := mg) (base := base) F16 T Ta b13 k13 m13 In b15 k15 m15
  have Tb := ok_table (P := l.prog) (w := w) (mg := mg) (base := base) F17 T Ta b13 k13 m13 Ul b14 k14 m14 Pn b16 k16 m16
  have Tr := ok_tree (P := l.prog) (w := w) (mg := mg) (base := base) F18 T b18 m18 Ta b13 k13 m13 3
  have We := ok_web (P := l.prog) (w := w) (mg := mg) (base := base) F19 T Ta b13 k13 m13 Ul b14 k14 m14 Tr b18 k18 m18
  have Go := ok_lgoals (P := l.prog) (w := w) (mg := mg) (base := base) F20 T Ta b13 k13 m13
  exact ok_law F21 T Ta b13 k13 m13 Fe b12 k12 m12 Tb b17 k17 m17 We b19 k19 m19 Go b20 k20 m20 Fp b11 k11 m11 Wl b8 k8 m8
theorem walk {l : PySem.W.OpenLaw} {q : Program} {loose : List Str} {XP : (Str → Option Value) → Heap → Prop} {YP : World → Heap → Prop} {d : DefRec} {K : Params → PySem.W.Frag} (hn : l.most = some 63) (hdf : d.params.defaults = [])
    (hY : ∀ (w : World) (h : Heap), YP w h → (K w.params).In h)
    (F : ∀ (w : World) (mg : Str → Option Value) (fa : Addr) (h : Heap), (K w.params).In h → h.Ns mainGlobals mg → mg d.name = some (.ref fa) →
      ∃ fd : FuncData, (∀ (s : Shared) (u : Value), BindsTo s fd ⟨[u], []⟩ [("script", u)]) ∧ ∀ base : Heap, (K w.params).In base → base.Ns mainGlobals mg → FnOk l.prog w (K w.params) mg base CX0 7 fa fd ["script"] (spLaw (K w.params))) :
    PySem.W.WalkO q loose XP YP l.row.toRowW d [] (fun f vs => PySem.call f vs) :=
  L2.walk_of (n := 63) (k := 7) (x := "script") (CX := fun _ => CX0) (sp := fun w => spLaw (K w.params)) hn (by decide) hdf ⟨rfl, by decide, by decide⟩ hY F (fun _ _ a ns hl _ hS => ⟨a, ns, rfl, hS, hl, fun _ => rfl⟩) fun _ _ _ _ _ z => z
end K50
open PySem PySem.W PyProof.Rows
set_option maxRecDepth 100000 in
set_option maxHeartbeats 0 in
theorem PySem.Challenge.cw_rowsmith_k50_whole_longer_fronts_cost_no_holds : PySem.Challenge.rw_rowsmith_k50_whole_longer_fronts_cost_no.Holds := by
  w_on; o_law; k_head; (case hw => w_witness2)
  k_fill
  refine K50.walk (l := PySem.Challenge.rw_rowsmith_k50_whole_longer_fronts_cost_no) rfl rfl (fun w h Y => PySem.W.kIn_of Y) ?F
  case F =>
    intro w mg fa h KX G hmg
    refine' K50.all_mk KX G hmg ?a1 ?l1 ?c1 ?k1 ?a2 ?l2 ?c2 ?k2 ?a3 ?l3 ?c3 ?k3 ?a4 ?l4 ?c4 ?k4 ?a5 ?l5 ?c5 ?k5 ?a6 ?l6 ?c6 ?k6 ?a7 ?l7 ?c7 ?k7 ?a8 ?l8 ?c8 ?k8 ?a9 ?l9 ?c9 ?k9 ?a10 ?l10 ?c10 ?k10 ?a11 ?l11 ?c11 ?k11 ?a12 ?l12 ?c12 ?k12 ?a13 ?l13 ?c13 ?k13 ?a14 ?l14 ?c14 ?k14 ?a15 ?l15 ?c15 ?k15 ?a16 ?l16 ?c16 ?k16 ?a17 ?l17 ?c17 ?k17 ?a18 ?l18 ?c18 ?k18 ?a19 ?l19 ?c19 ?k19 ?a20 ?l20 ?c20 ?k20 ?a21 ?l21 ?c21 ?k21 ?z1 ?z2 ?z3 ?z4 ?z5 ?z6 ?z7 ?z8 ?z9 ?z10 ?z11 ?z12 ?aS ?lS ?kl ?low ?s1 ?s2 ?s3 ?s4 ?n1 ?n2 ?n3
    (case a1 => k_is); (case l1 => k_is); (case c1 => k_is); (case k1 => k_is)
    (case a2 => k_is); (case l2 => k_is); (case c2 => k_is); (case k2 => k_is)
    (case a3 => k_is); (case l3 => k_is); (case c3 => k_is); (case k3 => k_is)
    (case a4 => k_is); (case l4 => k_is); (case c4 => k_is); (case k4 => k_is)
    (case a5 => k_is); (case l5 => k_is); (case c5 => k_is); (case k5 => k_is)
    (case a6 => k_is); (case l6 => k_is); (case c6 => k_is); (case k6 => k_is)
    (case a7 => k_is); (case l7 => k_is); (case c7 => k_is); (case k7 => k_is)
    (case a8 => k_is); (case l8 => k_is); (case c8 => k_is); (case k8 => k_is)
    (case a9 => k_is); (case l9 => k_is); (case c9 => k_is); (case k9 => k_is)
    (case a10 => k_is); (case l10 => k_is); (case c10 => k_is); (case k10 => k_is)
    (case a11 => k_is); (case l11 => k_is); (case c11 => k_is); (case k11 => k_is)
    (case a12 => k_is); (case l12 => k_is); (case c12 => k_is); (case k12 => k_is)
    (case a13 => k_is); (case l13 => k_is); (case c13 => k_is); (case k13 => k_is)
    (case a14 => k_is); (case l14 => k_is); (case c14 => k_is); (case k14 => k_is)
    (case a15 => k_is); (case l15 => k_is); (case c15 => k_is); (case k15 => k_is)
    (case a16 => k_is); (case l16 => k_is); (case c16 => k_is); (case k16 => k_is)
    (case a17 => k_is); (case l17 => k_is); (case c17 => k_is); (case k17 => k_is)
    (case a18 => k_is); (case l18 => k_is); (case c18 => k_is); (case k18 => k_is)
    (case a19 => k_is); (case l19 => k_is); (case c19 => k_is); (case k19 => k_is)
    (case a20 => k_is); (case l20 => k_is); (case c20 => k_is); (case k20 => k_is)
    (case a21 => k_is); (case l21 => k_is); (case c21 => k_is); (case k21 => k_is)
    (case z1 => k_is); (case z2 => k_is); (case z3 => k_is); (case z4 => k_is); (case z5 => k_is); (case z6 => k_is); (case z7 => k_is); (case z8 => k_is); (case z9 => k_is); (case z10 => k_is); (case z11 => k_is); (case z12 => k_is)
    (case aS => k_is); (case lS => k_is)
    (case kl => exact ⟨⟨_, _, rfl, rfl⟩, ⟨_, _, rfl, rfl⟩, ⟨_, _, rfl, rfl⟩, ⟨_, _, rfl, rfl⟩, trivial⟩)
    (case low => first | rfl | decide)
    (case s1 => k_is); (case s2 => k_is); (case s3 => k_is); (case s4 => k_is); (case n1 => k_is); (case n2 => k_is); (case n3 => k_is)
