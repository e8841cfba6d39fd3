import PyProof.Rows.All
import Wide.All
import OpenK.AllK
import Wide.FinOn
import HandS.ForMost
import HandS.ForExc
import HandS.IsInst
import HandS.Codes
import HandS.Conv
import HandS.SortInts
import HandS.TupAny
import HandS.TupMul
import HandS.TupLen
import HandS.TupLe
import HandS.Flow
import HandS.TryMany
import HandS.ExcInit
import HandS.ExcField
import HandS.EndBits
import KE.KExcSuper
import PySem.Challenge.RW_roundowned_k23_whole_shortest_rows
import KE.SortData
import KE.DataMinMax
import KE.DataCmp
import KE.GoesEnum
import KE.KDictDisplayH
import HandS.DictTup
import HandS.ListItems
import HandS.Walk
import HandS.New
import HandS.WordsDict
import HandS.ExcSuper
import HandS.WordsExc
import HandS.ExcOwn
set_option Elab.async false
set_option linter.all false
set_option maxRecDepth 100000
set_option maxHeartbeats 4000000
/-! The plain law of shortest rows: no program in sight. -/
namespace K23

/-! ### the order of rows -/
def lx : List Int → List Int → Bool
  | [], [] => false
  | [], _ :: _ => true
  | _ :: _, [] => false
  | x :: xs, y :: ys => if x = y then lx xs ys else decide (x < y)

theorem lx_self : ∀ a : List Int, lx a a = false
  | [] => rfl
  | x :: xs => by
    show (if x = x then lx xs xs else decide (x < x)) = false
    rw [if_pos rfl]; exact lx_self xs

theorem lx_tri : ∀ a b : List Int, lx a b = false → lx b a = false → a = b
  | [], [], _, _ => rfl
  | [], _ :: _, h, _ => by cases h
  | _ :: _, [], _, h => by cases h
  | x :: xs, y :: ys, h, g => by
    have h' : (if x = y then lx xs ys else decide (x < y)) = false := h
    have g' : (if y = x then lx ys xs else decide (y < x)) = false := g
    by_cases e : x = y
    · subst e
      rw [if_pos rfl] at h' g'
      rw [lx_tri xs ys h' g']
    · rw [if_neg e] at h'
      rw [if_neg (fun z => e z.symm)] at g'
      have h1 := of_decide_eq_false h'
      have g1 := of_decide_eq_false g'
      omega

theorem lx_asymm : ∀ a b : List Int, lx a b = true → lx b a = false
  | [], [], h => by cases h
  | [], _ :: _, _ => rfl
  | _ :: _, [], h => by cases h
  | x :: xs, y :: ys, h => by
    have h' : (if x = y then lx xs ys else decide (x < y)) = true := h
    show (if y = x then lx ys xs else decide (y < x)) = false
    by_cases e : x = y
    · subst e
      rw [if_pos rfl] at h' ⊢
      exact lx_asymm xs ys h'
    · rw [if_neg e] at h'
      rw [if_neg (fun z => e z.symm)]
      have h1 := of_decide_eq_true h'
      exact decide_eq_false (by omega)

theorem lx_trans : ∀ a b c : List Int, lx a b = true → lx b c = true → lx a c = true
  | [], [], _, h, _ => by cases h
  | [], _ :: _, [], _, g => by cases g
  | [], _ :: _, _ :: _, _, _ => rfl
  | _ :: _, [], _, h, _ => by cases h
  | _ :: _, _ :: _, [], _, g => by cases g
  | x :: xs, y :: ys, z :: zs, h, g => by
    have h' : (if x = y then lx xs ys else decide (x < y)) = true := h
    have g' : (if y = z then lx ys zs else decide (y < z)) = true := g
    show (if x = z then lx xs zs else decide (x < z)) = true
    by_cases e : x = y
    · subst e
      rw [if_pos rfl] at h'
      by_cases f : x = z
      · subst f
        rw [if_pos rfl] at g' ⊢
        exact lx_trans xs ys zs h' g'
      · rw [if_neg f] at g' ⊢; exact g'
    · rw [if_neg e] at h'
      have h1 := of_decide_eq_true h'
      by_cases f : y = z
      · subst f
        rw [if_neg e]; exact h'
      · rw [if_neg f] at g'
        have g1 := of_decide_eq_true g'
        have ne : x ≠ z := by omega
        rw [if_neg ne]
        exact decide_eq_true (by omega)

/-- not greater -/
def Le (a b : List Int) : Prop := lx b a = false
theorem Le.refl (a : List Int) : Le a a := lx_self a
theorem Le.of_lx {a b : List Int} (h : lx a b = true) : Le a b := lx_asymm a b h
theorem Le.antisymm {a b : List Int} (h : Le a b) (g : Le b a) : a = b := lx_tri a b g h
theorem Le.trans {a b c : List Int} (h : Le a b) (g : Le b c) : Le a c := by
  show lx c a = false
  cases e : lx c a with
  | false => rfl
  | true =>
    exfalso
    by_cases f : lx a b = true
    · have := lx_trans c a b e f
      rw [show lx c b = false from g] at this
      cases this
    · have f' : lx a b = false := by cases q : lx a b with
        | false => rfl
        | true => exact absurd q f
      have ab : a = b := lx_tri a b f' h
      subst ab
      rw [show lx c a = false from g] at e
      cases e
theorem Le.total (a b : List Int) : Le a b ∨ Le b a := by
  cases e : lx b a with
  | false => exact .inl e
  | true => exact .inr (lx_asymm b a e)
theorem lx_snoc : ∀ (a b : List Int) (k : Int), a.length = b.length → lx (a ++ [k]) (b ++ [k]) = lx a b
  | [], [], k, _ => by
    show (if k = k then lx [] [] else decide (k < k)) = false
    rw [if_pos rfl]; rfl
  | [], _ :: _, _, h => by cases h
  | _ :: _, [], _, h => by cases h
  | x :: xs, y :: ys, k, h => by
    have h' : xs.length = ys.length := Nat.succ.inj h
    show (if x = y then lx (xs ++ [k]) (ys ++ [k]) else decide (x < y)) = (if x = y then lx xs ys else decide (x < y))
    rw [lx_snoc xs ys k h']
theorem Le.snoc {a b : List Int} {k : Int} (e : a.length = b.length) (h : Le a b) : Le (a ++ [k]) (b ++ [k]) := by
  show lx (b ++ [k]) (a ++ [k]) = false
  rw [lx_snoc b a k e.symm]; exact h
theorem Le.of_snoc {a b : List Int} {k : Int} (e : a.length = b.length) (h : Le (a ++ [k]) (b ++ [k])) : Le a b := by
  have h' : lx (b ++ [k]) (a ++ [k]) = false := h
  rw [lx_snoc b a k e.symm] at h'; exact h'

/-! ### the least of some -/
/-- the first of the least: as min goes through a list -/
def least : List Int → List (List Int) → List Int
  | m, [] => m
  | m, y :: ys => least (if lx y m = true then y else m) ys
theorem least_mem : ∀ (ys : List (List Int)) (m : List Int), least m ys = m ∨ least m ys ∈ ys
  | [], m => .inl rfl
  | y :: ys, m => by
    show least (if lx y m = true then y else m) ys = m ∨ least (if lx y m = true then y else m) ys ∈ y :: ys
    by_cases h : lx y m = true
    · rw [if_pos h]
      rcases least_mem ys y with e | e
      · rw [e]; exact .inr List.mem_cons_self
      · exact .inr (List.mem_cons_of_mem _ e)
    · rw [if_neg h]
      rcases least_mem ys m with e | e
      · exact .inl e
      · exact .inr (List.mem_cons_of_mem _ e)
theorem least_le : ∀ (ys : List (List Int)) (m : List Int), Le (least m ys) m ∧ ∀ y ∈ ys, Le (least m ys) y
  | [], m => ⟨Le.refl m, fun _ h => nomatch h⟩
  | y :: ys, m => by
    show Le (least (if lx y m = true then y else m) ys) m ∧ ∀ z ∈ y :: ys, Le (least (if lx y m = true then y else m) ys) z
    by_cases h : lx y m = true
    · rw [if_pos h]
      obtain ⟨h1, h2⟩ := least_le ys y
      refine ⟨h1.trans (Le.of_lx h), fun z hz => ?_⟩
      rcases List.mem_cons.mp hz with rfl | hz
      · exact h1
      · exact h2 z hz
    · rw [if_neg h]
      obtain ⟨h1, h2⟩ := least_le ys m
      refine ⟨h1, fun z hz => ?_⟩
      rcases List.mem_cons.mp hz with rfl | hz
      · refine h1.trans ?_
        show lx z m = false
        cases q : lx z m with
        | false => rfl
        | true => exact absurd q h
      · exact h2 z hz

/-! ### rows -/
section
variable (N : Nat) (hf : Int → List Int → Bool)
inductive IsRow : List Int → Prop
  | nil : IsRow []
  | snoc {r : List Int} {k : Int} : IsRow r → 0 ≤ k → k < N → k ∉ r → hf k r = true → IsRow (r ++ [k])
/-- more houses carry no less -/
def Mono : Prop := ∀ (k : Int) (S T : List Int), (∀ x ∈ S, x ∈ T) → hf k S = true → hf k T = true
end
section
variable {N : Nat} {hf : Int → List Int → Bool}
theorem Mono.ext (m : Mono hf) {k : Int} {S T : List Int} (h : ∀ x, x ∈ S ↔ x ∈ T) : hf k S = hf k T := by
  cases a : hf k S with
  | true => exact (m k S T (fun x hx => (h x).mp hx) a).symm
  | false => cases b : hf k T with
    | false => rfl
    | true => rw [m k T S (fun x hx => (h x).mpr hx) b] at a; cases a
theorem snoc_inj {a b : List Int} {x y : Int} (h : a ++ [x] = b ++ [y]) : a = b ∧ x = y := by
  have := List.append_inj' h rfl
  exact ⟨this.1, by simpa using this.2⟩
theorem IsRow.inv {r : List Int} {k : Int} (h : IsRow N hf (r ++ [k])) : IsRow N hf r ∧ 0 ≤ k ∧ k < N ∧ k ∉ r ∧ hf k r = true := by
  generalize e : r ++ [k] = s at h
  cases h with
  | nil => simp at e
  | @snoc r' k' h1 h2 h3 h4 h5 =>
    obtain ⟨rfl, rfl⟩ := snoc_inj e
    exact ⟨h1, h2, h3, h4, h5⟩
theorem IsRow.nodup {r : List Int} (h : IsRow N hf r) : r.Nodup := by
  induction h with
  | nil => exact List.nodup_nil
  | @snoc r k h1 h2 h3 h4 h5 ih =>
    rw [List.nodup_append]
    refine ⟨ih, by simp, ?_⟩
    intro a ha b hb
    simp at hb
    subst hb
    exact fun e => h4 (e ▸ ha)
theorem IsRow.bound {r : List Int} (h : IsRow N hf r) : ∀ x ∈ r, 0 ≤ x ∧ x < N := by
  induction h with
  | nil => intro x hx; cases hx
  | @snoc r k h1 h2 h3 h4 h5 ih =>
    intro x hx
    rcases List.mem_append.mp hx with hx | hx
    · exact ih x hx
    · simp at hx; subst hx; exact ⟨h2, h3⟩
/-- different numbers below N are at most N many -/
theorem nodup_length : ∀ (N : Nat) (r : List Int), r.Nodup → (∀ x ∈ r, 0 ≤ x ∧ x < (N : Int)) → r.length ≤ N
  | 0, r, _, h => by
    cases r with
    | nil => exact Nat.le_refl 0
    | cons x r => have := h x List.mem_cons_self; omega
  | N + 1, r, hn, h => by
    have e := nodup_length N (r.erase (N : Int)) (hn.erase _) (fun x hx => by
      have h1 := h x (List.mem_of_mem_erase hx)
      have h2 : x ≠ (N : Int) := fun z => by
        subst z
        exact (List.Nodup.not_mem_erase hn) hx
      omega)
    have := List.length_erase (a := (N : Int)) (l := r)
    split at this <;> omega
theorem IsRow.length_le {r : List Int} (h : IsRow N hf r) : r.length ≤ N := nodup_length N r h.nodup h.bound
theorem IsRow.pre {a : List Int} : ∀ {n : Nat} {b : List Int}, b.length = n → IsRow N hf (a ++ b) → IsRow N hf a
  | 0, b, e, h => by
    have : b = [] := List.length_eq_zero_iff.mp e
    subst this
    rwa [List.append_nil] at h
  | n + 1, b, e, h => by
    have hb : b ≠ [] := fun z => by rw [z] at e; cases e
    have q := List.dropLast_concat_getLast hb
    rw [← q, ← List.append_assoc] at h
    exact IsRow.pre (n := n) (b := b.dropLast) (by rw [List.length_dropLast]; omega) h.inv.1

/-- a row that ends in a house -/
def Ends (r : List Int) (h : Int) : Prop := ∃ r', r = r' ++ [h]
structure Best (N : Nat) (hf : Int → List Int → Bool) (h : Int) (r : List Int) : Prop where
  row : IsRow N hf r
  fin : Ends r h
  least : ∀ s, IsRow N hf s → Ends s h → r.length < s.length ∨ (r.length = s.length ∧ Le r s)
theorem Best.unique {h : Int} {r s : List Int} (a : Best N hf h r) (b : Best N hf h s) : r = s := by
  rcases a.least s b.row b.fin with h1 | ⟨h1, h2⟩
  · rcases b.least r a.row a.fin with g1 | ⟨g1, _⟩ <;> omega
  · rcases b.least r a.row a.fin with g1 | ⟨g1, g2⟩
    · omega
    · exact h2.antisymm g2
/-- no row of at most so many houses ends in it -/
def NoRow (N : Nat) (hf : Int → List Int → Bool) (n : Nat) (h : Int) : Prop := ∀ r, IsRow N hf r → Ends r h → n < r.length
def Never (N : Nat) (hf : Int → List Int → Bool) (h : Int) : Prop := ∀ r, IsRow N hf r → ¬ Ends r h
theorem NoRow.zero {h : Int} : NoRow N hf 0 h := fun r _ ⟨r', e⟩ => by
  subst e
  rw [List.length_append, List.length_singleton]; omega
theorem NoRow.never {h : Int} (x : NoRow N hf N h) : Never N hf h := fun r hr he => by
  have h1 := x r hr he
  have h2 := hr.length_le
  omega
/-- where no row of at most n ends in it, it is in no row of at most n -/
theorem NoRow.not_mem {h : Int} {n : Nat} (x : NoRow N hf n h) : ∀ {m : Nat} {r : List Int}, r.length = m → m ≤ n → IsRow N hf r → h ∉ r
  | 0, r, e, _, _ => by
    rw [List.length_eq_zero_iff.mp e]; exact List.not_mem_nil
  | m + 1, r, e, hm, hr => by
    cases hr with
    | nil => exact List.not_mem_nil
    | @snoc r k h1 h2 h3 h4 h5 =>
      rw [List.length_append, List.length_singleton] at e
      intro hx
      rcases List.mem_append.mp hx with hx | hx
      · exact x.not_mem (m := m) (r := r) (by omega) (by omega) h1 hx
      · simp at hx
        subst hx
        have := x _ (IsRow.snoc h1 h2 h3 h4 h5) ⟨r, rfl⟩
        rw [List.length_append, List.length_singleton] at this
        omega

/-! ### the table of one length: from each lot of houses its least row -/
abbrev Tb := List (List Int × List Int)
def lookD (D : Tb) (k : List Int) : Option (List Int) := (D.find? fun kv => decide (kv.1 = k)).map (·.2)
def putD (D : Tb) (k v : List Int) : Tb := if (D.any fun kv => decide (kv.1 = k)) = true then D.map (fun kv => if kv.1 = k then (kv.1, v) else kv) else D ++ [(k, v)]
structure Ent (N : Nat) (hf : Int → List Int → Bool) (n : Nat) (e : List Int × List Int) : Prop where
  row : IsRow N hf e.2
  len : e.2.length = n
  perm : e.1.Perm e.2
  asc : e.1.Pairwise (· ≤ ·)
structure Lev (N : Nat) (hf : Int → List Int → Bool) (n : Nat) (D : Tb) : Prop where
  nd : (D.map (·.1)).Nodup
  ok : ∀ e ∈ D, Ent N hf n e
  all : ∀ r, IsRow N hf r → r.length = n → ∃ e ∈ D, e.1.Perm r ∧ Le e.2 r
theorem Lev.zero : Lev N hf 0 [([], [])] where
  nd := by simp
  ok := fun e he => by
    simp at he
    subst he
    exact ⟨.nil, rfl, .refl _, List.Pairwise.nil⟩
  all := fun r _ e => by
    rw [List.length_eq_zero_iff.mp e]
    exact ⟨([], []), List.mem_cons_self, .refl _, Le.refl _⟩
theorem Ent.mem {n : Nat} {e : List Int × List Int} (x : Ent N hf n e) (k : Int) : k ∈ e.1 ↔ k ∈ e.2 := x.perm.mem_iff

theorem perm_sorted_eq : ∀ {a b : List Int}, a.Perm b → a.Pairwise (· ≤ ·) → b.Pairwise (· ≤ ·) → a = b := fun {a b} p ha hb =>
  List.Perm.eq_of_pairwise (fun x y _ _ h1 h2 => Int.le_antisymm h1 h2) ha hb p

/-- what may be put behind a lot -/
def Cand (N : Nat) (hf : Int → List Int → Bool) (e : List Int × List Int) (k : Int) : Prop := 0 ≤ k ∧ k < N ∧ k ∉ e.1 ∧ hf k e.1 = true
structure Mid (N : Nat) (hf : Int → List Int → Bool) (n : Nat) (D' : Tb) (P : List Int × List Int → Int → Prop) : Prop where
  nd : (D'.map (·.1)).Nodup
  ok : ∀ e ∈ D', Ent N hf (n + 1) e
  told : ∀ e k, P e k → Cand N hf e k → ∃ f ∈ D', f.1.Perm (e.2 ++ [k]) ∧ Le f.2 (e.2 ++ [k])
theorem Mid.zero {n : Nat} : Mid N hf n [] fun _ _ => False := ⟨List.nodup_nil, fun _ h => (nomatch h), fun _ _ h => h.elim⟩
theorem Mid.mono {n : Nat} {D' : Tb} {P P' : List Int × List Int → Int → Prop} (x : Mid N hf n D' P) (h : ∀ e k, P' e k → Cand N hf e k → P e k) : Mid N hf n D' P' :=
  ⟨x.nd, x.ok, fun e k p c => x.told e k (h e k p c) c⟩
theorem Cand.ent {n : Nat} (m : Mono hf) {e : List Int × List Int} {k : Int} (x : Ent N hf n e) (c : Cand N hf e k) : IsRow N hf (e.2 ++ [k]) := by
  obtain ⟨c1, c2, c3, c4⟩ := c
  refine .snoc x.row c1 c2 (fun z => c3 ((x.mem k).mpr z)) ?_
  rw [← m.ext (fun y => x.mem y)]; exact c4
theorem Mid.lev {n : Nat} {D D' : Tb} (m : Mono hf) (L : Lev N hf n D) (x : Mid N hf n D' fun e _ => e ∈ D) : Lev N hf (n + 1) D' := by
  refine ⟨x.nd, x.ok, fun r hr hl => ?_⟩
  cases hr with
  | nil => cases hl
  | @snoc r k h1 h2 h3 h4 h5 =>
    rw [List.length_append, List.length_singleton] at hl
    obtain ⟨e, he, hp, hle⟩ := L.all r h1 (by omega)
    have E := L.ok e he
    have c : Cand N hf e k := ⟨h2, h3, fun z => h4 (hp.mem_iff.mp z), by rw [m.ext (fun y => hp.mem_iff)]; exact h5⟩
    obtain ⟨f, hf1, hf2, hf3⟩ := x.told e k he c
    refine ⟨f, hf1, hf2.trans ((E.perm.symm.trans hp).append_right _), hf3.trans (hle.snoc ?_)⟩
    rw [E.len]; omega

/-! one candidate -/
theorem lookD_mem : ∀ {D : Tb} {k v : List Int}, lookD D k = some v → (k, v) ∈ D
  | [], _, _, h => by cases h
  | p :: r, k, v, h => by
    by_cases e : p.1 = k
    · have q : lookD (p :: r) k = some p.2 := by simp [lookD, List.find?_cons, e]
      rw [q] at h
      cases h
      rw [← e]; exact List.mem_cons_self
    · have q : lookD (p :: r) k = lookD r k := by simp [lookD, List.find?_cons, e]
      rw [q] at h
      exact List.mem_cons_of_mem _ (lookD_mem h)
theorem lookD_none : ∀ {D : Tb} {k : List Int}, lookD D k = none → ∀ e ∈ D, e.1 ≠ k
  | [], _, _, e, he => nomatch he
  | p :: r, k, h, e, he => by
    by_cases q : p.1 = k
    · have z : lookD (p :: r) k = some p.2 := by simp [lookD, List.find?_cons, q]
      rw [z] at h; cases h
    · have z : lookD (p :: r) k = lookD r k := by simp [lookD, List.find?_cons, q]
      rw [z] at h
      rcases List.mem_cons.mp he with rfl | he
      · exact q
      · exact lookD_none h e he
theorem any_look (k : List Int) : ∀ D : Tb, (D.any fun kv => decide (kv.1 = k)) = (lookD D k).isSome
  | [] => rfl
  | p :: r => by
    by_cases q : p.1 = k
    · have z : lookD (p :: r) k = some p.2 := by simp [lookD, List.find?_cons, q]
      rw [z]; simp [q]
    · have z : lookD (p :: r) k = lookD r k := by simp [lookD, List.find?_cons, q]
      rw [z, ← any_look k r]; simp [q]
theorem mem_putD {D : Tb} {k v : List Int} : (k, v) ∈ putD D k v := by
  unfold putD
  by_cases a : (D.any fun kv => decide (kv.1 = k)) = true
  · rw [if_pos a]
    obtain ⟨p, hp, e⟩ := List.any_eq_true.mp a
    have e' := of_decide_eq_true e
    refine List.mem_map.mpr ⟨p, hp, ?_⟩
    rw [if_pos e', e']
  · rw [if_neg a]; simp
theorem of_mem_putD {D : Tb} {k v : List Int} {e : List Int × List Int} (h : e ∈ putD D k v) : e = (k, v) ∨ (e ∈ D ∧ e.1 ≠ k) := by
  unfold putD at h
  by_cases a : (D.any fun kv => decide (kv.1 = k)) = true
  · rw [if_pos a] at h
    obtain ⟨p, hp, q⟩ := List.mem_map.mp h
    by_cases z : p.1 = k
    · rw [if_pos z] at q; rw [← q, z]; exact .inl rfl
    · rw [if_neg z] at q; subst q; exact .inr ⟨hp, z⟩
  · rw [if_neg a] at h
    rcases List.mem_append.mp h with h | h
    · refine .inr ⟨h, fun z => a ?_⟩
      exact List.any_eq_true.mpr ⟨e, h, decide_eq_true z⟩
    · simp at h; exact .inl h
theorem mem_putD_ne {D : Tb} {k v : List Int} {e : List Int × List Int} (h : e ∈ D) (n : e.1 ≠ k) : e ∈ putD D k v := by
  unfold putD
  by_cases a : (D.any fun kv => decide (kv.1 = k)) = true
  · rw [if_pos a]; exact List.mem_map.mpr ⟨e, h, if_neg n⟩
  · rw [if_neg a]; exact List.mem_append_left _ h
theorem nd_putD {D : Tb} {k v : List Int} (h : (D.map (·.1)).Nodup) : ((putD D k v).map (·.1)).Nodup := by
  unfold putD
  by_cases a : (D.any fun kv => decide (kv.1 = k)) = true
  · rw [if_pos a, List.map_map]
    have : ((fun x : List Int × List Int => x.1) ∘ fun kv : List Int × List Int => if kv.1 = k then (kv.1, v) else kv) = fun kv => kv.1 := by
      funext kv
      show (if kv.1 = k then (kv.1, v) else kv).1 = kv.1
      split <;> rfl
    rw [this]; exact h
  · rw [if_neg a, List.map_append]
    rw [List.nodup_append]
    refine ⟨h, by simp, ?_⟩
    intro x hx y hy
    simp at hy
    subst hy
    intro e
    subst e
    obtain ⟨p, hp, q⟩ := List.mem_map.mp hx
    exact a (List.any_eq_true.mpr ⟨p, hp, decide_eq_true q⟩)
theorem length_putD (D : Tb) (k v : List Int) : (putD D k v).length ≤ D.length + 1 := by
  unfold putD
  split
  · rw [List.length_map]; omega
  · rw [List.length_append, List.length_singleton]; omega

/-- what the code does with one candidate -/
def stepD (D : Tb) (key told : List Int) : Tb :=
  match lookD D key with
  | none => putD D key told
  | some old => if lx told old = true then putD D key told else D
theorem keys_inj : ∀ {l : Tb}, (l.map (·.1)).Nodup → ∀ {a b : List Int × List Int}, a ∈ l → b ∈ l → a.1 = b.1 → a = b
  | [], _, _, _, ha, _, _ => nomatch ha
  | p :: r, hn, a, b, ha, hb, hab => by
    rw [List.map_cons, List.nodup_cons] at hn
    rcases List.mem_cons.mp ha with ea | ha'
    · rcases List.mem_cons.mp hb with eb | hb'
      · rw [ea, eb]
      · exact absurd (List.mem_map.mpr ⟨b, hb', by rw [← hab, ea]⟩) hn.1
    · rcases List.mem_cons.mp hb with eb | hb'
      · exact absurd (List.mem_map.mpr ⟨a, ha', by rw [hab, eb]⟩) hn.1
      · exact keys_inj hn.2 ha' hb' hab
theorem Mid.put {n : Nat} {D' : Tb} {P : List Int × List Int → Int → Prop} (m : Mono hf) (x : Mid N hf n D' P) {e : List Int × List Int} {k : Int} (E : Ent N hf n e) (c : Cand N hf e k)
    {key : List Int} (hp : key.Perm (e.1 ++ [k])) (hs : key.Pairwise (· ≤ ·)) (hb : ∀ old, lookD D' key = some old → lx (e.2 ++ [k]) old = true) :
    Mid N hf n (putD D' key (e.2 ++ [k])) fun f j => P f j ∨ (f = e ∧ j = k) := by
  have hk : key.Perm (e.2 ++ [k]) := hp.trans (E.perm.append_right _)
  refine ⟨nd_putD x.nd, fun f hf1 => ?_, fun f j hfj cf => ?_⟩
  · rcases of_mem_putD hf1 with rfl | ⟨hf1, _⟩
    · refine ⟨c.ent m E, ?_, hk, hs⟩
      show (e.2 ++ [k]).length = n + 1
      rw [List.length_append, List.length_singleton, E.len]
    · exact x.ok f hf1
  · rcases hfj with hfj | ⟨rfl, rfl⟩
    · obtain ⟨g, g1, g2, g3⟩ := x.told f j hfj cf
      by_cases z : g.1 = key
      · refine ⟨(key, e.2 ++ [k]), mem_putD, ?_, ?_⟩
        · rw [← z]; exact g2
        · have q : lookD D' key = some g.2 := by
            cases q : lookD D' key with
            | none => exact absurd z (lookD_none q g g1)
            | some old =>
              have h1 := lookD_mem q
              have : (key, old) = g := by
                exact keys_inj x.nd h1 g1 z.symm
              rw [← this]
          exact (Le.of_lx (hb g.2 q)).trans g3
      · exact ⟨g, mem_putD_ne g1 z, g2, g3⟩
    · exact ⟨_, mem_putD, hk, Le.refl _⟩
theorem Mid.skip {n : Nat} {D' : Tb} {P : List Int × List Int → Int → Prop} (x : Mid N hf n D' P) {e : List Int × List Int} {k : Int} (E : Ent N hf n e)
    {key old : List Int} (hp : key.Perm (e.1 ++ [k])) (h : lookD D' key = some old) (hb : ¬ lx (e.2 ++ [k]) old = true) :
    Mid N hf n D' fun f j => P f j ∨ (f = e ∧ j = k) := by
  refine ⟨x.nd, x.ok, fun f j hfj cf => ?_⟩
  rcases hfj with hfj | ⟨rfl, rfl⟩
  · exact x.told f j hfj cf
  · refine ⟨(key, old), lookD_mem h, hp.trans (E.perm.append_right _), ?_⟩
    show lx (f.2 ++ [j]) old = false
    cases q : lx (f.2 ++ [j]) old with
    | false => rfl
    | true => exact absurd q hb
theorem Mid.step {n : Nat} {D' : Tb} {P : List Int × List Int → Int → Prop} (m : Mono hf) (x : Mid N hf n D' P) {e : List Int × List Int} {k : Int} (E : Ent N hf n e) (c : Cand N hf e k)
    {key : List Int} (hp : key.Perm (e.1 ++ [k])) (hs : key.Pairwise (· ≤ ·)) : Mid N hf n (stepD D' key (e.2 ++ [k])) fun f j => P f j ∨ (f = e ∧ j = k) := by
  unfold stepD
  cases q : lookD D' key with
  | none => exact x.put m E c hp hs fun old h => by rw [q] at h; cases h
  | some old =>
    show Mid N hf n (if lx (e.2 ++ [k]) old = true then putD D' key (e.2 ++ [k]) else D') _
    by_cases z : lx (e.2 ++ [k]) old = true
    · rw [if_pos z]
      exact x.put m E c hp hs fun o h => by rw [q] at h; cases h; exact z
    · rw [if_neg z]
      exact x.skip E hp q z

/-! ### the end: the house is ready -/
def readyOf (hf : Int → List Int → Bool) (D : Tb) (h : Int) : List (List Int) := (D.filter fun e => hf h e.1).map (·.2)
theorem mem_ready {D : Tb} {h : Int} {r : List Int} : r ∈ readyOf hf D h ↔ ∃ e ∈ D, hf h e.1 = true ∧ e.2 = r := by
  unfold readyOf
  rw [List.mem_map]
  constructor
  · rintro ⟨e, he, rfl⟩
    rw [List.mem_filter] at he
    exact ⟨e, he.1, he.2, rfl⟩
  · rintro ⟨e, he, hq, rfl⟩
    exact ⟨e, List.mem_filter.mpr ⟨he, hq⟩, rfl⟩
theorem Lev.none {n : Nat} {D : Tb} (m : Mono hf) (L : Lev N hf n D) {h : Int} (x : NoRow N hf n h) (e : readyOf hf D h = []) : NoRow N hf (n + 1) h := fun r hr he => by
  have h1 := x r hr he
  by_cases q : r.length = n + 1
  · exfalso
    obtain ⟨r', rfl⟩ := he
    obtain ⟨a1, a2, a3, a4, a5⟩ := hr.inv
    rw [List.length_append, List.length_singleton] at q
    obtain ⟨f, f1, f2, f3⟩ := L.all r' a1 (by omega)
    have : f.2 ∈ readyOf hf D h := mem_ready.mpr ⟨f, f1, by rw [m.ext (fun y => f2.mem_iff)]; exact a5, rfl⟩
    rw [e] at this
    cases this
  · omega
theorem Lev.best {n : Nat} {D : Tb} (m : Mono hf) (L : Lev N hf n D) {h : Int} (hb : 0 ≤ h ∧ h < N) (x : NoRow N hf n h) {r : List Int} (hr : r ∈ readyOf hf D h) (hm : ∀ s ∈ readyOf hf D h, Le r s) : Best N hf h (r ++ [h]) := by
  obtain ⟨e, e1, e2, rfl⟩ := mem_ready.mp hr
  have E := L.ok e e1
  have nm : h ∉ e.2 := x.not_mem (m := n) E.len (Nat.le_refl n) E.row
  refine ⟨.snoc E.row hb.1 hb.2 nm ?_, ⟨_, rfl⟩, fun s hs he => ?_⟩
  · rw [← m.ext (fun y => E.mem y)]; exact e2
  · have h1 := x s hs he
    rw [List.length_append, List.length_singleton, E.len]
    by_cases q : s.length = n + 1
    · refine .inr ⟨q.symm, ?_⟩
      obtain ⟨s', rfl⟩ := he
      obtain ⟨a1, a2, a3, a4, a5⟩ := hs.inv
      rw [List.length_append, List.length_singleton] at q
      obtain ⟨f, f1, f2, f3⟩ := L.all s' a1 (by omega)
      have : f.2 ∈ readyOf hf D h := mem_ready.mpr ⟨f, f1, by rw [m.ext (fun y => f2.mem_iff)]; exact a5, rfl⟩
      refine Le.snoc ?_ ((hm _ this).trans f3)
      rw [E.len]; omega
    · exact .inl (by omega)
theorem Lev.empty {n : Nat} (L : Lev N hf n []) {h : Int} (x : NoRow N hf n h) : Never N hf h := by
  -- no row of length n at all, so none longer
  intro r hr he
  have h1 := x r hr he
  have h2 : (r.take n).length = n := by rw [List.length_take]; omega
  have h3 : IsRow N hf (r.take n) := by
    have q : IsRow N hf (r.take n ++ r.drop n) := by rw [List.take_append_drop]; exact hr
    exact IsRow.pre rfl q
  obtain ⟨e, he, _⟩ := L.all _ h3 h2
  cases he
theorem Lev.le {n : Nat} {D : Tb} (L : Lev N hf n D) (h : D ≠ []) : n ≤ N := by
  cases D with
  | nil => exact absurd rfl h
  | cons e D =>
    have E := L.ok e List.mem_cons_self
    rw [← E.len]; exact E.row.length_le

/-! ### all rows, listed -/
structure AllRows (N : Nat) (hf : Int → List Int → Bool) (n : Nat) (F : List (List Int)) : Prop where
  ok : ∀ r ∈ F, IsRow N hf r ∧ r.length = n
  all : ∀ r, IsRow N hf r → r.length = n → r ∈ F
theorem AllRows.zero : AllRows N hf 0 [[]] := ⟨fun r h => by simp at h; subst h; exact ⟨.nil, rfl⟩, fun r _ h => by rw [List.length_eq_zero_iff.mp h]; exact List.mem_cons_self⟩
def endsIn (h : Int) (r : List Int) : Bool := decide (r.getLast? = some h)
theorem endsIn_iff {h : Int} {r : List Int} : endsIn h r = true ↔ Ends r h := by
  unfold endsIn
  rw [decide_eq_true_iff]
  constructor
  · intro e
    have hne : r ≠ [] := fun z => by rw [z] at e; cases e
    have q := List.dropLast_concat_getLast hne
    rw [List.getLast?_eq_some_getLast hne] at e
    rw [Option.some.inj e] at q
    exact ⟨_, q.symm⟩
  · rintro ⟨r', rfl⟩
    simp
theorem AllRows.none {n : Nat} {F : List (List Int)} (A : AllRows N hf (n + 1) F) {h : Int} (x : NoRow N hf n h) (e : F.filter (endsIn h) = []) : NoRow N hf (n + 1) h := fun r hr he => by
  have h1 := x r hr he
  by_cases q : r.length = n + 1
  · exfalso
    have : r ∈ F.filter (endsIn h) := List.mem_filter.mpr ⟨A.all r hr q, endsIn_iff.mpr he⟩
    rw [e] at this; cases this
  · omega
theorem AllRows.best {n : Nat} {F : List (List Int)} (A : AllRows N hf (n + 1) F) {h : Int} (x : NoRow N hf n h) {r : List Int} (hr : r ∈ F.filter (endsIn h)) (hm : ∀ s ∈ F.filter (endsIn h), Le r s) : Best N hf h r := by
  obtain ⟨r1, r2⟩ := List.mem_filter.mp hr
  obtain ⟨r3, r4⟩ := A.ok r r1
  refine ⟨r3, endsIn_iff.mp r2, fun s hs he => ?_⟩
  have h1 := x s hs he
  by_cases q : s.length = n + 1
  · exact .inr ⟨by omega, hm s (List.mem_filter.mpr ⟨A.all s hs q, endsIn_iff.mpr he⟩)⟩
  · exact .inl (by omega)
end
end K23
/-! The text by places; what is asked of the module; calls. -/
namespace K23
open PySem PySem.Spec PyProof.Rows L2
def topS (i : Nat) : Stmt := PySem.Challenge.pw_roundowned_k23_whole_shortest_rows.main.body.getD i (.Pass ⟨0, 0, 0, 0⟩)
abbrev s_BadWeb_init : Stmt := inClass (topS 2) 0
abbrev s_TooMany_init : Stmt := inClass (topS 6) 0
abbrev s_is_integer : Stmt := topS 8
abbrev s_is_within : Stmt := topS 9
abbrev s_is_pair : Stmt := topS 10
abbrev s_are_ascending : Stmt := topS 11
abbrev s_are_rising : Stmt := topS 12
abbrev s_check_many : Stmt := topS 13
abbrev s_is_holder_of : Stmt := topS 18
abbrev s_are_shares : Stmt := topS 19
abbrev s_Web_init : Stmt := inClass (topS 20) 0
abbrev s_Web_keep : Stmt := inClass (topS 20) 1
abbrev s_Web_eq : Stmt := inClass (topS 20) 2
abbrev s_RawWeb_init : Stmt := inClass (topS 21) 0
abbrev s_raw_web : Stmt := topS 22
abbrev s_is_house : Stmt := topS 23
abbrev s_check_house : Stmt := topS 24
abbrev s_is_lot : Stmt := topS 25
abbrev s_check_lot : Stmt := topS 26
abbrev s_shares_with : Stmt := topS 29
abbrev s_has_half : Stmt := topS 30
abbrev s_carried_of : Stmt := topS 31
abbrev s_check_lot_and_house : Stmt := topS 32
abbrev s_row : Stmt := topS 33
abbrev s_longer_rows : Stmt := topS 34
abbrev s_shortest_row : Stmt := topS 35
abbrev s_shifted : Stmt := topS 37
abbrev s_check_match : Stmt := topS 38
abbrev s_beside : Stmt := topS 39
abbrev s_law_pool : Stmt := topS 41
abbrev s_law_draw : Stmt := topS 42
abbrev s_law_some : Stmt := topS 43
abbrev s_law_mixed : Stmt := topS 44
abbrev s_law_integer : Stmt := topS 45
abbrev s_law_same : Stmt := topS 46
abbrev s_law_holder : Stmt := topS 47
abbrev s_law_parts : Stmt := topS 48
abbrev s_law_has_half : Stmt := topS 49
abbrev s_law_layers : Stmt := topS 50
abbrev s_law_lot : Stmt := topS 51
abbrev s_law_row_fault : Stmt := topS 52
abbrev s_law_carried : Stmt := topS 53
abbrev s_law_least_row : Stmt := topS 54
abbrev s_law_least_by_lots : Stmt := topS 55
abbrev s_law_depth : Stmt := topS 56
abbrev s_law_great_right : Stmt := topS 57
abbrev s_law_deep_parts : Stmt := topS 58
abbrev s_law_chain_right : Stmt := topS 59
abbrev s_law_too_many : Stmt := topS 60
abbrev s_law : Stmt := topS 61
/-- what the module's names hold, as far as the code asks -/
structure Txt (K : PySem.W.Frag) (mg : Str → Option Value) : Prop where
  isinstance : mg "isinstance" = none
  int : mg "int" = none
  bool : mg "bool" = none
  str : mg "str" = none
  tuple : mg "tuple" = none
  list : mg "list" = none
  len : mg "len" = none
  all : mg "all" = none
  range : mg "range" = none
  enumerate : mg "enumerate" = none
  sorted : mg "sorted" = none
  sum : mg "sum" = none
  min : mg "min" = none
  abs : mg "abs" = none
  v_MOST_FOLK : ∃ u, mg "MOST_FOLK" = some u ∧ RelV (.int 6) u
  v_MOST_HOUSES_webs : ∃ u, mg "MOST_HOUSES_webs" = some u ∧ RelV (.int 12) u
  v_MOST_SHARES : ∃ u, mg "MOST_SHARES" = some u ∧ RelV (.int 15) u
  v_MOST_HOUSES_carrying : ∃ u, mg "MOST_HOUSES_carrying" = some u ∧ RelV (.int 12) u
/-- a def of the module -/
structure Df (K : PySem.W.Frag) (mg : Str → Option Value) (x : Str) (st : Stmt) (ps : List Str) : Prop where
  ex : ∃ (f : Addr) (fd : FuncData), Fun K x x st f fd ∧ mg x = some (.ref f) ∧ Binds K fd ps []
/-- .. by its promise -/
structure Cal (CX : CXT) (P : Program) (w : World) (K : PySem.W.Frag) (mg : Str → Option Value) (base : Heap) (k : Nat) (x : Str) (sp : Sp) : Prop where
  ex : ∃ (f : Addr) (fd : FuncData) (ps : List Str), FnOk P w K mg base CX k f fd ps sp ∧ mg x = some (.ref f) ∧ PySem.W.keepIn K (.ref f) = true ∧ Binds K fd ps []
section
variable {P : Program} {w : World} {K : PySem.W.Frag} {mg : Str → Option Value} {base : Heap}
theorem Df.cal {x : Str} {st : Stmt} {N ps : List Str} {k : Nat} {sp : Sp} (D : Df K mg x st ps) (S : FnScope N ps (defScope st)) (len : ∀ vs H Q E, sp vs H Q E → vs.length = ps.length)
    (hbody : ∀ (f : Addr) (cdv : Value) (A : Around) (outer : List Env) (s : Shared) (H : Hp) (vs : List V) (Q : VK) (E : XK), Room k (A.deeper (envOfC x (defScope st) s.heap.objs.size f cdv)) → sp vs H Q E →
      ∃ t, PSs (cxOf CX0 P w K mg base N x (defScope st) f cdv A outer s H E).nox (defBody st) t ∧ t { nx := fun _ H' => Q .non H', rt := Q } (start N vs) H) : Cal CX0 P w K mg base (k + 1) x sp := by
  obtain ⟨f, fd, F, hm, b⟩ := D.ex
  exact ⟨f, fd, ps, F.ok S len (hbody f), hm, F.kp, b⟩
theorem Df.calX {x : Str} {st : Stmt} {N ps : List Str} {k : Nat} {sp : Sp} (D : Df K mg x st ps) (S : FnScope N ps (defScope st)) (len : ∀ vs H Q E, sp vs H Q E → vs.length = ps.length)
    (hbody : ∀ (f : Addr) (cdv : Value) (A : Around) (outer : List Env) (s : Shared) (H : Hp) (vs : List V) (Q : VK) (E : XK), Room k (A.deeper (envOfC x (defScope st) s.heap.objs.size f cdv)) → sp vs H Q E →
      ∃ t, PSs (cxOf (L2.CX P w) P w K mg base N x (defScope st) f cdv A outer s H E) (defBody st) t ∧ t { nx := fun _ H' => Q .non H', rt := Q } (start N vs) H) : Cal (L2.CX P w) P w K mg base (k + 1) x sp := by
  obtain ⟨f, fd, F, hm, b⟩ := D.ex
  exact ⟨f, fd, ps, F.okX S len (hbody f), hm, F.kp, b⟩
theorem Cal.imp {CX : CXT} {k : Nat} {x : Str} {sp sp' : Sp} (c : Cal CX P w K mg base k x sp) (h : ∀ vs H Q E, sp' vs H Q E → sp vs H Q E) : Cal CX P w K mg base k x sp' := by
  obtain ⟨f, fd, ps, F, a⟩ := c.ex
  exact ⟨f, fd, ps, F.imp h, a⟩
end
section
variable {X : Cx} {k j : Nat} {x : Str} {sp : Sp} {p pos : Pos} {e : Expr} {es : List Expr} {t : TA}
theorem pe_calX {CX : CXT} {E : XK} (c : Cal CX X.prog X.w X.K X.mg X.base k x sp) (hx : Passes CX X E) (hr : Room j X.A) (hk : k ≤ j) (hg : Gl X x) (ha : PA X (e :: es) t)
    (hdb : (x == ("__debug__" : Str)) = false := by decide) (he : starEach (e :: es) X.env = (false, eval e X.env) :: starEach es X.env := by rfl) (hpl : (backTo pos (starEach es X.env)).any (·.1) = false := by rfl) :
    PE X (.Call (.Name x p) (e :: es) [] pos) (tCall sp [] E t) := by
  obtain ⟨f, fd, ps, F, hm, kp, b⟩ := c.ex
  exact pe_call F (hr.mono hk) hg hm kp b .nil hx ha hdb he hpl
theorem pe_cal (c : Cal CX0 X.prog X.w X.K X.mg X.base k x sp) (hr : Room j X.A) (hk : k ≤ j) (hg : Gl X x) (ha : PA X (e :: es) t)
    (hdb : (x == ("__debug__" : Str)) = false := by decide) (he : starEach (e :: es) X.env = (false, eval e X.env) :: starEach es X.env := by rfl) (hpl : (backTo pos (starEach es X.env)).any (·.1) = false := by rfl) :
    PE X (.Call (.Name x p) (e :: es) [] pos) (tCall sp [] E0 t) := pe_calX c pass0 hr hk hg ha hdb he hpl
/-- a name of the module, by its value -/
theorem pe_gc {v : V} (hg : Gl X x) (h : ∃ u, X.mg x = some u ∧ RelV v u) (hd : (x == ("__debug__" : Str)) = false := by decide) : PE X (.Name x pos) (tC v) := by
  obtain ⟨u, hm, r⟩ := h
  exact pe_glob hg hm r hd
end
theorem pe_ty {X : Cx} {x : Str} {pos : Pos} (T : String) (hg : Gl X x) (hm : X.mg x = none) (hv : bootBuiltins x = some (.type T)) (hn : x ≠ "__name__" := by decide) (hd : (x == ("__debug__" : Str)) = false := by decide) : PE X (.Name x pos) (tC (.ty T)) :=
  pe_bltn (v := .ty T) (u := .type T) hg hm hv rfl hn hd
/-- isinstance of a built-in class, by the type's name -/
def Ty (K : PySem.W.Frag) (H : Hp) (x : V) (t : String) : Prop := TyX K H x (.type t)
theorem ty_int {K : PySem.W.Frag} {H : Hp} {i : Int} : Ty K H (.int i) "int" := .base (.int i)
theorem ty_str {K : PySem.W.Frag} {H : Hp} {x : Str} : Ty K H (.str x) "str" := .base (.str x)
theorem ty_tup {K : PySem.W.Frag} {H : Hp} {a : Addr} {xs : List V} (h : H a = some (.tup xs)) : Ty K H (.ref a) "tuple" := .base (.tup h)
theorem ty_non {K : PySem.W.Frag} {H : Hp} : Ty K H .non "NoneType" := .base .non
def rIsB (K : PySem.W.Frag) (T : String) : List V → Hp → VK → Prop := fun xs H Q => ∃ (x : V) (t : String) (b : Bool), xs = [x, .ty T] ∧ Ty K H x t ∧ kitB t T = some b ∧ Q (.bl b) H
theorem call_isB {X : Cx} (T : String) : CallR X (.builtin "isinstance") (rIsB X.K T) := by
  intro pins s σ H xs us Q I r h
  obtain ⟨x, t, b, rfl, ty, e, q⟩ := h
  exact call_isi pins s σ H _ us Q I r ⟨x, .ty T, .type t, .type T, b, rfl, .ty T, ty, kit_ty e, q⟩
theorem kb_int_int : kitB "int" "int" = some true := by decide +kernel
theorem kb_int_bool : kitB "int" "bool" = some false := by decide +kernel
theorem kb_int_str : kitB "int" "str" = some false := by decide +kernel
theorem kb_int_tuple : kitB "int" "tuple" = some false := by decide +kernel
theorem kb_int_list : kitB "int" "list" = some false := by decide +kernel
theorem kb_str_str : kitB "str" "str" = some true := by decide +kernel
theorem kb_tuple_tuple : kitB "tuple" "tuple" = some true := by decide +kernel
theorem kb_tuple_list : kitB "tuple" "list" = some false := by decide +kernel
theorem kb_tuple_bool : kitB "tuple" "bool" = some false := by decide +kernel
theorem kb_tuple_int : kitB "tuple" "int" = some false := by decide +kernel
theorem kb_tuple_str : kitB "tuple" "str" = some false := by decide +kernel

section
variable {P : Program} {w : World} {K : PySem.W.Frag} {mg : Str → Option Value} {base : Heap}
/-! ### is_integer, is_within -/
abbrev n_is_integer : List Str := ["thing"]
theorem sc_is_integer : FnScope n_is_integer ["thing"] (defScope s_is_integer) := ⟨rfl, rfl, rfl, by decide +kernel, rfl, by decide +kernel, by decide +kernel⟩
def spIsInt : Sp := fun vs H Q _ => ∃ i : Int, vs = [.int i] ∧ Q (.bl true) H
theorem ok_is_integer (T : Txt K mg) (D : Df K mg "is_integer" s_is_integer ["thing"]) : Cal CX0 P w K mg base 1 "is_integer" spIsInt := by
  refine D.cal sc_is_integer (fun vs H Q E h => ?_) (fun f cdv A outer s H vs Q E hr h => ?_)
  · obtain ⟨i, rfl, _⟩ := h
    rfl
  · obtain ⟨i, rfl, q⟩ := h
    have nd := sc_is_integer.nd
    refine ⟨_, pss_one (ps_ret (pe_and (pe_callB (call_isB "int") (by rfl) T.isinstance (by decide +kernel) (pa_cons (pv 0) (pa_cons (pe_ty "int" rfl T.int (by decide +kernel)) pa_nil))) (pe_one (pe_not (pe_callB (call_isB "bool") (by rfl) T.isinstance (by decide +kernel) (pa_cons (pv 0) (pa_cons (pe_ty "bool" rfl T.bool (by decide +kernel)) pa_nil))))))), ?_⟩
    exact ⟨_, rfl, _, _, _, rfl, ty_int, kb_int_int, true, rfl, iteT ⟨_, rfl, _, _, _, rfl, ty_int, kb_int_bool, false, rfl, q⟩⟩
abbrev n_is_within : List Str := ["thing", "least", "most"]
theorem sc_is_within : FnScope n_is_within ["thing", "least", "most"] (defScope s_is_within) := ⟨rfl, rfl, rfl, by decide +kernel, rfl, by decide +kernel, by decide +kernel⟩
def spIsWithin : Sp := fun vs H Q _ => ∃ i a b : Int, vs = [.int i, .int a, .int b] ∧ Q (.bl (decide (a ≤ i) && decide (i ≤ b))) H
theorem ok_is_within (c_is_integer : Cal CX0 P w K mg base 1 "is_integer" spIsInt) (D : Df K mg "is_within" s_is_within ["thing", "least", "most"]) : Cal CX0 P w K mg base 2 "is_within" spIsWithin := by
  refine D.cal sc_is_within (fun vs H Q E h => ?_) (fun f cdv A outer s H vs Q E hr h => ?_)
  · obtain ⟨i, a, b, rfl, _⟩ := h
    rfl
  · obtain ⟨i, a, b, rfl, q⟩ := h
    have nd := sc_is_within.nd
    refine ⟨_, pss_one (ps_ret (pe_and (pe_cal c_is_integer hr (by decide) (by rfl) (pa_cons (pv 0) pa_nil)) (pe_one (pe_chain op_le op_le (pv 1) (pv 0) (pv 2))))), ?_⟩
    refine ⟨_, rfl, i, rfl, true, rfl, iteT ⟨_, rfl, _, rfl, a, i, rfl, rfl, _, rfl, ite2 (fun e => ?_) (fun e => ?_)⟩⟩
    · refine ⟨_, rfl, i, b, rfl, rfl, ?_⟩
      rw [e, Bool.true_and] at q
      exact q
    · have e' : decide (a ≤ i) = false := by
        cases z : decide (a ≤ i) with
        | false => rfl
        | true => exact absurd z e
      rw [e', Bool.false_and] at q
      exact q
end
end K23
/-! Rules of our own: sorted of a list or a tuple of data, min of a list of data, order of tuples. -/
namespace K23
open PySem PySem.Spec PyProof.Rows L2 PySem.W
section
variable {prog : Program} {w : World} {A : Around} {E : Value → Shared → Prop} {s : Shared}
/-- the items of a tuple, taken -/
theorem collect_tup {l : Addr} {vs : List Value} {Q : List Value → Shared → Prop} (hl : s.heap.IsTuple l vs.toArray) (hz : vs.length ≤ sizeLine)
    (q : Q vs { s with heap := (s.heap.push (seqObj "list" #[] 0)).update s.heap.objs.size (Obj.mapSeq (· ++ vs.toArray)) }) : wpAny (model prog w) A (collect (.ref l)) Q E s := by
  obtain ⟨ob, e0, e1, m, e2⟩ := id hl
  have hnew : (s.heap.push (seqObj "list" #[] 0)).get? s.heap.objs.size = some (seqObj "list" #[] 0) := Heap.get?_push_size _ rfl
  have hold : (s.heap.push (seqObj "list" #[] 0)).get? l = some ob := Heap.get?_push_of_some _ e0
  unfold collect
  refine wpAny_bind (wpAny_runValue (codeAny_builtin entry_proto_collect' ?_))
  show wpAny _ _ (do again (.builtin "list.__iadd__" ⟨[← newList [], .ref l], []⟩)) _ _ s
  refine wpAny_bind (wpAny_newList (wpAny_pure ⟨Code.quiet_builtin _ (by decide +kernel), codeAny_builtin entry_list_iadd' ?_⟩))
  show wpAny _ _ (Builtin.List.listExtendWith (.ref s.heap.objs.size) (.ref l) (.ref s.heap.objs.size)) _ _ { s with heap := s.heap.push (seqObj "list" #[] 0) }
  unfold Builtin.List.listExtendWith
  refine wpAny_bind (wpAny_typeOf (T := "tuple") ⟨ob, hold, e1⟩ ?_)
  have ht : (Value.type "tuple" == Value.type "tuple") = true := by rfl
  rw [if_pos (by rw [ht]; simp)]
  refine wpAny_bind (listItems_at hold e2 (wpAny_bind (listItems_at (xs := #[]) (n := 0) hnew rfl ?_)))
  rw [if_neg (by simp)]
  refine wpAny_bind (listUpdate_at (xs := #[]) (n := 0) hnew rfl ?_ (Nat.zero_le _) (by show (#[] ++ vs.toArray).size ≤ sizeLine + 1; simp only [Array.size_append, List.size_toArray, List.length_nil]; omega))
  refine wpAny_pure ?_
  show wpAny (model prog w) A (do
      let o ← load s.heap.objs.size
      match o.data with
      | .seq xs _ => pure xs.toList
      | _ => unsupported "internal:collect") Q E { s with heap := (s.heap.push (seqObj "list" #[] 0)).update s.heap.objs.size (Obj.mapSeq (· ++ vs.toArray)) }
  refine wpAny_bind (wpAny_load (get?_update_seq hnew _) ?_)
  show wpAny _ _ (pure ((#[] : Array Value) ++ vs.toArray).toList) Q E _
  rw [show ((#[] : Array Value) ++ vs.toArray).toList = vs by simp]
  exact wpAny_pure q
/-- sorted(t) is list.sort() on a new list of t's items -/
theorem sorted_tup_of {l : Addr} {vs : List Value} {Q : Value → Shared → Prop} (hl : s.heap.IsTuple l vs.toArray) (hz : vs.length ≤ sizeLine)
    (body : ∀ E' : Value → Shared → Prop, wpAny (model prog w) A.in1.in1 (Builtin.«list.sort» ⟨[.ref (s.heap.objs.size + 1)], []⟩) (fun f s' => f = .done (.ret .none) ∧ Q (.ref (s.heap.objs.size + 1)) s') E' { s with heap := copyHeap s.heap vs }) :
    wpAny (model prog w) A (call (.builtin "sorted") [.ref l]) Q E s := by
  refine call_function_entry_kw kind_sorted plain_sorted entry_sorted (args_sorted1 _) ?_
  unfold Builtin.«sorted»
  refine wpAny_bind (m := checkCount "sorted" 1 1 _) (wpAny_pure (wpAny_bind (collect_tup hl hz (wpAny_bind (wpAny_newList ?_ hz)))))
  have hs1 : ((s.heap.push (seqObj "list" #[] 0)).update s.heap.objs.size (Obj.mapSeq (· ++ vs.toArray))).objs.size = s.heap.objs.size + 1 := by
    rw [Heap.size_update, size_push']
  show wpAny _ _ _ _ _ { s with heap := copyHeap s.heap vs }
  rw [hs1]
  refine wpAny_bind (wpAny_holding (wpAny_call_entry_kw slot_list_sort ⟨_, copyHeap_at s.heap vs, rfl⟩ entry_list_sort ?b (args_list_sort _)))
  case b =>
    show wpAny (model prog w) A.in1.in1 (Builtin.«list.sort» ⟨[.ref (s.heap.objs.size + 1)], []⟩) _ _ _
    refine wpAny_mono (body _) (fun f s' hf => ?_) fun _ _ e => e
    obtain ⟨rfl, hq⟩ := hf
    exact ⟨_, rfl, wpAny_pure ⟨_, rfl, hq⟩⟩
section
variable {β : Type} {R : Value → β → Prop} {enc : β → PyData} {vs : List Value} {bs : List β}
theorem sorted_tup_data {l : Addr} {Q : Value → Shared → Prop} (hl : s.heap.IsTuple l vs.toArray) (e : EachIs R vs bs) (er : EachIs (fun v b => ∃ as, Reads s.heap v (enc b) as) vs bs) (hal : AllAlike (bs.map enc)) (hk : Sortable (bs.map enc)) (hL : bs.length ≤ sizeLine)
    (hu : ∀ b, b ∈ bs → A.units + 2 + (enc b).depth < cLine) (q : ∀ out, out.length = bs.length → EachIs R out (bs.mergeSort (dataLe false enc)) → Q (.ref (s.heap.objs.size + 1)) { s with heap := sortedAll s.heap vs (List.toArray out) }) :
    wpAny (model prog w) A (call (.builtin "sorted") [.ref l]) Q E s := by
  have er2 : EachIs (fun v b => ∃ as, Reads (sortingHeap (copyHeap s.heap vs) (s.heap.objs.size + 1) vs) v (enc b) as) vs bs :=
    er.mono fun _ _ ⟨as, r⟩ => ⟨as, PyProof.Rows.Reads.keeps (fun _ _ => sorting_copy_old) r⟩
  have S := SortsAt.data (prog := prog) (w := w) (A := A.in1.in1) (s := { s with heap := sortingHeap (copyHeap s.heap vs) (s.heap.objs.size + 1) vs }) (each_map (R := fun v d => ∃ as, Reads (sortingHeap (copyHeap s.heap vs) (s.heap.objs.size + 1) vs) v d as) enc er2) hal hk (bound_map hu)
  have hlv : vs.length ≤ sizeLine := by rw [e.length]; exact hL
  exact sorted_tup_of hl hlv fun _ => list_sort_vals (s := { s with heap := copyHeap s.heap vs }) (copyHeap_at s.heap vs) S hlv
    ⟨rfl, q _ (by rw [sortVals_length false rfl]; exact e.length) (sortVals_data false e er2 hal)⟩
end
end
/-! ### over the layer -/
theorem paired_each {β : Type} {Rv : V → β → Prop} : ∀ {xs : List V} {bs : List β} {us : List Value}, Paired Rv xs bs → Vals xs us → EachIs (fun u b => ∃ x, RelV x u ∧ Rv x b) us bs
  | _, _, _, .nil, .nil => .nil
  | _, _, _, .cons a t, .cons r q => .cons ⟨_, r, a⟩ (paired_each t q)
theorem each_paired {β : Type} {Rv : V → β → Prop} : ∀ {us : List Value} {bs : List β}, EachIs (fun u b => ∃ x, RelV x u ∧ Rv x b) us bs → ∃ xs, Vals xs us ∧ Paired Rv xs bs
  | _, _, .nil => ⟨[], .nil, .nil⟩
  | _, _, .cons ⟨x, r, a⟩ t => by
    obtain ⟨xs, q1, q2⟩ := each_paired t
    exact ⟨x :: xs, .cons r q1, .cons a q2⟩
theorem EachIs.imp {α β : Type} {R R' : α → β → Prop} (h : ∀ a b, R a b → R' a b) : ∀ {as : List α} {bs : List β}, EachIs R as bs → EachIs R' as bs
  | _, _, .nil => .nil
  | _, _, .cons a t => .cons (h _ _ a) (EachIs.imp h t)
/-- sorted(x): x a list or a tuple whose items stand for bs (Rv), each a datum enc -/
def rSortE (K : Frag) {β : Type} (enc : β → PyData) (Rv : Hp → V → β → Prop) : List V → Hp → VK → Prop := fun vs H Q => ∃ (a : Addr) (xs : List V) (bs : List β), vs = [.ref a] ∧ (SqL K H a xs ∨ SqT K H a xs) ∧ Paired (Rv H) xs bs ∧
  bs.length ≤ sizeLine ∧ ∀ (ys : List V) (p : Addr), H p = none → Paired (Rv H) ys (bs.mergeSort (dataLe false enc)) → Q (.ref p) (upd H p (.lst ys))
theorem cr_sortE {X : Cx} {β : Type} (enc : β → PyData) (Rv : Hp → V → β → Prop) (hu : X.A.units + 60 < cLine) (hd : ∀ H x b, Rv H x b → Dp X.K H x (enc b)) (hal : ∀ b b' : β, alike (enc b) (enc b') = true) (hk : ∀ bs : List β, Sortable (bs.map enc)) (hdep : ∀ b, (enc b).depth ≤ 8) :
    CallR X (.builtin "sorted") (rSortE X.K enc Rv) := by
  intro pins s σ H vs us Q I r h
  obtain ⟨a, xs, bs, rfl, hs, pr, hz, q⟩ := h
  rw [Vals.ref1 r]
  have dep : ∀ b, b ∈ bs → X.A.units + 2 + (enc b).depth < cLine := fun b _ => by
    have := hdep b
    omega
  have fin : ∀ (its out : List Value), Vals xs its → EachIs (fun u b => ∃ x, RelV x u ∧ Rv H x b) out (bs.mergeSort (dataLe false enc)) → EP X pins σ Q (.ref (s.heap.objs.size + 1)) { s with heap := sortedAll s.heap its (List.toArray out) } := fun its out rv e => by
    obtain ⟨ys, v1, v2⟩ := each_paired e
    obtain ⟨ep, he'⟩ := sortedAll_at s.heap its (List.toArray out)
    have hlen : ys.length ≤ sizeLine := by
      rw [v2.length, List.length_mergeSort]
      exact hz
    exact ⟨.ref _, upd H (s.heap.objs.size + 1) (.lst ys), I.laid (t' := s.toks) (fun _ _ => sortedAll_old) (Nat.le_succ _) ⟨hlen, out, ep, v1, he'⟩, rfl, q ys _ (I.hok.fresh (Nat.le_succ _)) v2⟩
  have read : ∀ its : List Value, Vals xs its → EachIs (fun v b => ∃ as, Reads s.heap v (enc b) as) its bs := fun its rv => EachIs.imp (fun u b ⟨x, r1, r2⟩ => Dp.reads I (enc b) x u (hd H x b r2) r1) (paired_each pr rv)
  rcases hs with hs | hs
  · obtain ⟨its, rv, hl, _⟩ := I.list hs
    exact sorted_data hl.isList (paired_each pr rv) (read its rv) (AllAlike.of hal) (hk bs) hz dep fun out _ e => fin its out rv e
  · obtain ⟨its, rv, hl, _⟩ := I.tuple hs
    exact sorted_tup_data hl (paired_each pr rv) (read its rv) (AllAlike.of hal) (hk bs) hz dep fun out _ e => fin its out rv e
end K23
/-! What stands in the heap: holders, houses, rows; their order. -/
namespace K23
open PySem PySem.Spec PyProof.Rows L2 PySem.W
/-! ### order by data -/
section
variable {X : Cx}
/-- x < y, x <= y of alike data -/
def rLtE (K : Frag) : R2 := fun x y H Q => ∃ d e : PyData, Dp K H x d ∧ Dp K H y e ∧ alike d e = true ∧ d ≠ .none ∧ d.depth ≤ 8 ∧ Q (.bl (dataLt d e)) H
def rLeE (K : Frag) : R2 := fun x y H Q => ∃ d e : PyData, Dp K H x d ∧ Dp K H y e ∧ alike d e = true ∧ d ≠ .none ∧ d.depth ≤ 8 ∧ Q (.bl (!dataLt e d)) H
theorem min_le8 {a b : Nat} (h : a ≤ 8) : min a b ≤ 8 := Nat.le_trans (Nat.min_le_left a b) h
theorem op_ltE (hu : X.A.units + 60 < cLine) : OpR X (compareOp .Lt) (rLtE X.K) := by
  intro pins s σ H x y v u Q I rx ry h
  obtain ⟨d, e, hd, he, al, nn, dp, q⟩ := h
  obtain ⟨as, r1⟩ := Dp.reads I d x v hd rx
  obtain ⟨bs, r2⟩ := Dp.reads I e y u he ry
  have := min_le8 (b := e.depth) dp
  exact lt_data r1 r2 al nn (by omega) ⟨.bl _, H, I, rfl, q⟩
theorem op_leE (hu : X.A.units + 60 < cLine) : OpR X (compareOp .LtE) (rLeE X.K) := by
  intro pins s σ H x y v u Q I rx ry h
  obtain ⟨d, e, hd, he, al, nn, dp, q⟩ := h
  obtain ⟨as, r1⟩ := Dp.reads I d x v hd rx
  obtain ⟨bs, r2⟩ := Dp.reads I e y u he ry
  have := min_le8 (b := e.depth) dp
  exact le_data r1 r2 al nn (by omega) ⟨.bl _, H, I, rfl, q⟩
theorem hu60 {A : Around} {k : Nat} (hr : Room k A) : A.units + 60 < cLine := by
  have := hr.un
  omega
end
/-! ### rows: tuples of ints -/
def RowAt (H : Hp) (x : V) (r : List Int) : Prop := ∃ a, x = .ref a ∧ H a = some (.tup (r.map V.int))
def encR (r : List Int) : PyData := .tuple (r.map .int)
theorem dpAll_ints {K : Frag} {H : Hp} : ∀ r : List Int, DpAll K H (r.map V.int) (r.map .int)
  | [] => .nil
  | x :: r => .cons (.int x) (dpAll_ints r)
theorem RowAt.dp {K : Frag} {H : Hp} {x : V} {r : List Int} (h : RowAt H x r) : Dp K H x (encR r) := by
  obtain ⟨a, rfl, h⟩ := h
  exact .tup (SqT.of h) (dpAll_ints r)
theorem alike_R (r s : List Int) : alike (encR r) (encR s) = true := by
  unfold encR alike
  exact alike_ints r s
theorem rowLt_lx : ∀ a b : List Int, rowLt (a.map .int) (b.map .int) = lx a b
  | [], [] => lex_irrefl _
  | [], y :: ys => by
    rw [dataLt_ints]
    exact decide_eq_true (List.nil_lt_cons y ys)
  | x :: xs, [] => by
    rw [dataLt_ints]
    exact decide_eq_false (by simp)
  | x :: xs, y :: ys => by
    have e : rowLt (PyData.int x :: xs.map .int) (PyData.int y :: ys.map .int) = if PyData.eqv (.int x) (.int y) = true then rowLt (xs.map .int) (ys.map .int) else dataLt (.int x) (.int y) := dataLt_cons (by simp [alike]) _ _
    show rowLt (PyData.int x :: xs.map .int) (PyData.int y :: ys.map .int) = if x = y then lx xs ys else decide (x < y)
    rw [e, rowLt_lx xs ys, dataLt_int]
    by_cases h : x = y
    · rw [if_pos h, if_pos (by simp [PyData.eqv, h])]
    · rw [if_neg h, if_neg (by simp [PyData.eqv, h])]
theorem dataLt_R (a b : List Int) : dataLt (encR a) (encR b) = lx a b := by
  unfold encR
  rw [dataLt_tuple]
  exact rowLt_lx a b
theorem depth_R (r : List Int) : (encR r).depth ≤ 8 := by
  unfold encR
  rw [PyData.depth, depth_ints]
  decide
theorem encR_ne (r : List Int) : encR r ≠ .none := fun h => by
  unfold encR at h
  cases h
theorem encR_inj {a b : List Int} (h : encR a = encR b) : a = b := by
  have h1 := dataLt_R a b
  have h2 := dataLt_R b a
  rw [h] at h1 h2
  refine lx_tri a b ?_ ?_
  · rw [← h1, dataLt_R, lx_self]
  · rw [← h2, dataLt_R, lx_self]
/-- min of a list of rows -/
def rMinR (K : Frag) : List V → Hp → VK → Prop := fun vs H Q => ∃ (a : Addr) (xs : List V) (rs : List (List Int)), vs = [.ref a] ∧ SqL K H a xs ∧ Paired (RowAt H) xs rs ∧ rs ≠ [] ∧
  ∀ (x : V) (m : List Int), RowAt H x m → m ∈ rs → (∀ r ∈ rs, Le m r) → Q x H
theorem minD_R : ∀ (m : List Int) (rs : List (List Int)), minD (encR m) (rs.map encR) = encR (least m rs)
  | m, [] => rfl
  | m, r :: rs => by
    have e : minD (encR m) ((r :: rs).map encR) = minD (if dataLt (encR r) (encR m) = true then encR r else encR m) (rs.map encR) := rfl
    rw [e, dataLt_R]
    show _ = encR (least (if lx r m = true then r else m) rs)
    by_cases h : lx r m = true
    · rw [if_pos h, if_pos h]
      exact minD_R r rs
    · rw [if_neg h, if_neg h]
      exact minD_R m rs
theorem paired_at {α β : Type} {R : α → β → Prop} : ∀ {xs : List α} {ys : List β} {i : Nat} {x : α}, Paired R xs ys → xs[i]? = some x → ∃ y, ys[i]? = some y ∧ R x y
  | _, _, _, _, .nil, e => by simp at e
  | _, _, 0, _, .cons r _, e => by
    simp at e
    subst e
    exact ⟨_, rfl, r⟩
  | _, _, i + 1, x, .cons _ t, e => by
    obtain ⟨y, h1, h2⟩ := paired_at (i := i) (x := x) t (by simpa using e)
    exact ⟨y, by simpa using h1, h2⟩
theorem paired_at' {α β : Type} {R : α → β → Prop} : ∀ {xs : List α} {ys : List β} {i : Nat} {y : β}, Paired R xs ys → ys[i]? = some y → ∃ x, xs[i]? = some x ∧ R x y
  | _, _, _, _, .nil, e => by simp at e
  | _, _, 0, _, .cons r _, e => by
    simp at e
    subst e
    exact ⟨_, rfl, r⟩
  | _, _, i + 1, x, .cons _ t, e => by
    obtain ⟨y, h1, h2⟩ := paired_at' (i := i) (y := x) t (by simpa using e)
    exact ⟨y, by simpa using h1, h2⟩
theorem dpAll_rows {K : Frag} {H : Hp} : ∀ {xs : List V} {rs : List (List Int)}, Paired (RowAt H) xs rs → DpAll K H xs (rs.map encR)
  | _, _, .nil => .nil
  | _, _, .cons a t => .cons a.dp (dpAll_rows t)
theorem depthAll_R : ∀ rs : List (List Int), PyData.depthAll (rs.map encR) ≤ 8
  | [] => by
    rw [List.map_nil, PyData.depthAll]
    decide
  | r :: rs => by
    rw [List.map_cons, PyData.depthAll]
    have h1 := depth_R r
    have h2 := depthAll_R rs
    omega
theorem cr_minR {X : Cx} (hc : X.calm = true) (hu : X.A.units + 60 < cLine) : CallR X (.builtin "min") (rMinR X.K) := by
  intro pins s σ H vs us Q I r h
  obtain ⟨a, xs, rs, rfl, hs, pr, hne, q⟩ := h
  rw [Vals.ref1 r]
  obtain ⟨its, rv, hl, _⟩ := I.list hs
  obtain ⟨r0, rt, rfl⟩ : ∃ r0 rt, rs = r0 :: rt := by
    cases rs with
    | nil => exact absurd rfl hne
    | cons r0 rt => exact ⟨r0, rt, rfl⟩
  obtain ⟨as, hr⟩ := Dp.readsAll I _ xs its (dpAll_rows pr) rv
  have hal : AlikeAll ((r0 :: rt).map encR) := ⟨fun x hx y hy => by
    obtain ⟨p, _, rfl⟩ := List.mem_map.mp hx
    obtain ⟨p', _, rfl⟩ := List.mem_map.mp hy
    exact alike_R p p', fun x hx => by
    obtain ⟨p, _, rfl⟩ := List.mem_map.mp hx
    exact encR_ne p⟩
  have hd := depthAll_R (r0 :: rt)
  refine min_list_data (I.ok.hd hc) hl.isList (x := encR r0) (xs := rt.map encR) hr hal (by rw [List.map_cons] at hd; omega) fun i v h' tk bs hv rd hk => ?_
  have hv' : its[i]? = some v := by simpa using hv
  obtain ⟨x, hx, rxv⟩ := paired_at' (R := RelV) rv hv'
  obtain ⟨m, hm, hrow⟩ := paired_at pr hx
  obtain ⟨as2, rd2⟩ := Dp.reads I (encR m) x v hrow.dp rxv
  have rd3 := PyProof.Rows.Reads.keeps hk rd2
  rw [minD_R] at rd
  have em : m = least r0 rt := encR_inj (alike_unique _ _ _ _ _ (alike_R m (least r0 rt)) rd3 rd)
  have hle := least_le rt r0
  refine ⟨x, H, I.kept hk, rxv, q x m hrow (List.mem_of_getElem? hm) fun r hr => ?_⟩
  rw [em]
  rcases List.mem_cons.mp hr with rfl | hr
  · exact hle.1
  · exact hle.2 r hr
/-- t < u of rows -/
theorem ltE_rows {K : Frag} {H : Hp} {x y : V} {a b : List Int} {Q : VK} (hx : RowAt H x a) (hy : RowAt H y b) (q : Q (.bl (lx a b)) H) : rLtE K x y H Q :=
  ⟨encR a, encR b, hx.dp, hy.dp, alike_R a b, encR_ne a, depth_R a, by rw [dataLt_R]; exact q⟩
/-! ### sorted of ints -/
def IntAt (_ : Hp) (x : V) (i : Int) : Prop := x = .int i
theorem paired_ints {H : Hp} : ∀ ns : List Int, Paired (IntAt H) (ns.map V.int) ns
  | [] => .nil
  | _ :: ns => .cons rfl (paired_ints ns)
theorem of_paired_ints {H : Hp} : ∀ {xs : List V} {ns : List Int}, Paired (IntAt H) xs ns → xs = ns.map V.int
  | _, _, .nil => rfl
  | _, _, .cons a t => by
    rw [List.map_cons, ← of_paired_ints t]
    rw [show _ = _ from a]
def rSortIT (K : Frag) : List V → Hp → VK → Prop := fun vs H Q => ∃ (a : Addr) (ns : List Int), vs = [.ref a] ∧ (SqL K H a (ns.map V.int) ∨ SqT K H a (ns.map V.int)) ∧ ns.length ≤ sizeLine ∧
  ∀ (ms : List Int) (p : Addr), H p = none → ms.Perm ns → ms.Pairwise (· ≤ ·) → Q (.ref p) (upd H p (.lst (ms.map V.int)))
theorem cr_sortIT {X : Cx} (hu : X.A.units + 60 < cLine) : CallR X (.builtin "sorted") (rSortIT X.K) := by
  intro pins s σ H vs us Q I r h
  obtain ⟨a, ns, rfl, hs, hz, q⟩ := h
  refine cr_sortE (β := Int) (fun i => .int i) IntAt hu (fun H x b e => by rw [show x = .int b from e]; exact .int b) (fun b b' => by simp [alike]) (fun bs => Sortable.others fun b => ⟨fun e => (nomatch e), fun xs e => (nomatch e)⟩) (fun b => by rw [PyData.depth]; decide) pins s σ H _ us Q I r
    ⟨a, ns.map V.int, ns, rfl, hs, paired_ints ns, hz, fun ys p hp pr => ?_⟩
  rw [of_paired_ints pr]
  have e : (fun a b : Int => dataLe false (fun i : Int => PyData.int i) a b) = fun a b => decide (a ≤ b) := dataLe_int (fun i : Int => i)
  refine q _ p hp (List.mergeSort_perm _ _) ?_
  have hp2 : (ns.mergeSort (fun a b : Int => decide (a ≤ b))).Pairwise (fun a b => decide (a ≤ b) = true) :=
    List.pairwise_mergeSort (fun a b c h1 h2 => by simp only [decide_eq_true_eq] at *; omega) (fun a b => by simp only [Bool.or_eq_true, decide_eq_true_eq]; omega) ns
  rw [show (dataLe false fun i : Int => PyData.int i) = fun a b => decide (a ≤ b) from e]
  exact hp2.imp fun h => of_decide_eq_true h
/-! ### holders -/
inductive Hd where
  | f (k : Int)
  | h (k : Int)
  deriving DecidableEq
def Hd.sign : Hd → Str
  | .f _ => "f"
  | .h _ => "h"
def Hd.num : Hd → Int
  | .f k => k
  | .h k => k
def Hd.isF : Hd → Bool
  | .f _ => true
  | .h _ => false
def Hd.vs (d : Hd) : List V := [.str d.sign, .int d.num]
def HdAt (H : Hp) (x : V) (d : Hd) : Prop := ∃ a, x = .ref a ∧ H a = some (.tup d.vs)
def encH (d : Hd) : PyData := .tuple [.str d.sign, .int d.num]
/-- the order of holders -/
def Hd.le : Hd → Hd → Bool
  | .f a, .f b => decide (a ≤ b)
  | .f _, .h _ => true
  | .h _, .f _ => false
  | .h a, .h b => decide (a ≤ b)
theorem HdAt.dp {K : Frag} {H : Hp} {x : V} {d : Hd} (h : HdAt H x d) : Dp K H x (encH d) := by
  obtain ⟨a, rfl, h⟩ := h
  exact .tup (SqT.of h) (.cons (.str _) (.cons (.int _) .nil))
theorem alike_H (d e : Hd) : alike (encH d) (encH e) = true := by
  unfold encH
  simp [alike, alikeAll]
theorem encH_ne (d : Hd) : encH d ≠ .none := fun h => by
  unfold encH at h
  cases h
theorem depth_H (d : Hd) : (encH d).depth ≤ 8 := by
  unfold encH
  simp [PyData.depth, PyData.depthAll]
theorem fh_ne : ¬ ("f" : Str) = "h" := by decide +kernel
theorem ff_lt : dataLt (.str "f") (.str "h") = true := by decide +kernel
theorem hf_lt : dataLt (.str "h") (.str "f") = false := by decide +kernel
theorem eqv_str (x : Str) : PyData.eqv (.str x) (.str x) = true := by simp [PyData.eqv]
theorem eqv_fh : PyData.eqv (.str "f") (.str "h") = false := by decide +kernel
theorem eqv_hf : PyData.eqv (.str "h") (.str "f") = false := by decide +kernel
theorem eqv_int (a b : Int) : PyData.eqv (.int a) (.int b) = decide (a = b) := by
  simp only [PyData.eqv]
  by_cases h : a = b <;> simp [h]
theorem dataLt_H (d e : Hd) : (!dataLt (encH e) (encH d)) = Hd.le d e := by
  cases d <;> cases e
  · rename_i a b
    show (!dataLt (.tuple [.str "f", .int b]) (.tuple [.str "f", .int a])) = decide (a ≤ b)
    rw [dataLt_pair (by simp [alike]) (by simp [alike]), if_pos (eqv_str _), eqv_int, dataLt_int]
    by_cases h : b = a
    · simp [h]
    · by_cases g : b < a
      · have g2 : ¬ a ≤ b := by omega
        simp [h, g, g2]
      · have g2 : a ≤ b := by omega
        simp [h, g, g2]
  · rename_i a b
    show (!dataLt (.tuple [.str "h", .int b]) (.tuple [.str "f", .int a])) = true
    rw [dataLt_pair (by simp [alike]) (by simp [alike]), eqv_hf, if_neg Bool.false_ne_true, hf_lt]
    rfl
  · rename_i a b
    show (!dataLt (.tuple [.str "f", .int b]) (.tuple [.str "h", .int a])) = false
    rw [dataLt_pair (by simp [alike]) (by simp [alike]), eqv_fh, if_neg Bool.false_ne_true, ff_lt]
    rfl
  · rename_i a b
    show (!dataLt (.tuple [.str "h", .int b]) (.tuple [.str "h", .int a])) = decide (a ≤ b)
    rw [dataLt_pair (by simp [alike]) (by simp [alike]), if_pos (eqv_str _), eqv_int, dataLt_int]
    by_cases h : b = a
    · simp [h]
    · by_cases g : b < a
      · have g2 : ¬ a ≤ b := by omega
        simp [h, g, g2]
      · have g2 : a ≤ b := by omega
        simp [h, g, g2]
theorem Hd.le_trans (a b c : Hd) (h1 : Hd.le a b = true) (h2 : Hd.le b c = true) : Hd.le a c = true := by
  cases a <;> cases b <;> cases c <;> simp_all [Hd.le] <;> omega
theorem Hd.le_total (a b : Hd) : (Hd.le a b || Hd.le b a) = true := by
  cases a <;> cases b <;> simp [Hd.le] <;> omega
/-- sorted of holders, from a list or a tuple -/
def rSortH (K : Frag) : List V → Hp → VK → Prop := fun vs H Q => ∃ (a : Addr) (xs : List V) (ds : List Hd), vs = [.ref a] ∧ (SqL K H a xs ∨ SqT K H a xs) ∧ Paired (HdAt H) xs ds ∧ ds.length ≤ sizeLine ∧
  ∀ (ys : List V) (es : List Hd) (p : Addr), H p = none → Paired (HdAt H) ys es → es.Perm ds → es.Pairwise (fun a b => Hd.le a b = true) → Q (.ref p) (upd H p (.lst ys))
theorem cr_sortH {X : Cx} (hu : X.A.units + 60 < cLine) : CallR X (.builtin "sorted") (rSortH X.K) := by
  intro pins s σ H vs us Q I r h
  obtain ⟨a, xs, ds, rfl, hs, pr, hz, q⟩ := h
  refine cr_sortE (β := Hd) encH HdAt hu (fun H x b e => e.dp) alike_H (fun bs => Sortable.tuples fun b => ⟨_, _, rfl⟩) depth_H pins s σ H _ us Q I r
    ⟨a, xs, ds, rfl, hs, pr, hz, fun ys p hp pr' => ?_⟩
  have e : dataLe false encH = Hd.le := by
    funext d e
    exact dataLt_H d e
  rw [e] at pr'
  exact q ys _ p hp pr' (List.mergeSort_perm _ _) (List.pairwise_mergeSort Hd.le_trans Hd.le_total ds)
/-- t <= u of holders -/
theorem leE_hds {K : Frag} {H : Hp} {x y : V} {a b : Hd} {Q : VK} (hx : HdAt H x a) (hy : HdAt H y b) (q : Q (.bl (Hd.le a b)) H) : rLeE K x y H Q :=
  ⟨encH a, encH b, hx.dp, hy.dp, alike_H a b, encH_ne a, depth_H a, by rw [dataLt_H]; exact q⟩
end K23
/-! More rules of our own: xs[i] += n, enumerate of a tuple, {t: v} with a tuple for a key, sorted(d.items()). -/
namespace K23
open PySem PySem.Spec PyProof.Rows L2
/-! ### enumerate(tuple) -/
theorem enum_new_tup (l : Addr) (items : Array Value) :
    Meets (Builtin.«enumerate.__new__» ⟨[.type "enumerate", .ref l], []⟩) (fun _ R s => s.heap.IsTuple l items ∧
      R (.ok (.ret (.ref (s.heap.push { cls := .type "tuple_iterator", data := .fields #[.ref l, .int 0 0] }).objs.size)))
        { s with heap := (s.heap.push { cls := .type "tuple_iterator", data := .fields #[.ref l, .int 0 0] }).push { cls := .type "enumerate", data := .fields #[.none, .bool false, .ref s.heap.objs.size, rawInt 0, .none, .none] } }) :=
  .of_wp fun prog w A R s q => by
    obtain ⟨hp, g, d, tk, os⟩ := s
    obtain ⟨q0, q⟩ := q
    have hsub := sub_enumerate
    have it1 : ∀ {A' : Around} {E : Value → Shared → Prop} {Q : Value → Shared → Prop}, Q (.ref hp.objs.size) ⟨hp.push { cls := .type "tuple_iterator", data := .fields #[.ref l, .int 0 0] }, g, d, tk, os⟩ → wpAny (model prog w) A' (pyIter (.ref l)) Q E ⟨hp, g, d, tk, os⟩ :=
      fun q' => wpAny_pyIter_tuple (s := ⟨hp, g, d, tk, os⟩) q0 q'
    wp_walk using it1
    refine wpAny_stack_any fun st => wpAny_pure ?_
    split
    · rename_i c _ _ _ _ _
      cases (c == Value.type "enumerate") <;> (wp_walk using it1; exact ⟨_, rfl, q⟩)
    · wp_walk using it1
      exact ⟨_, rfl, q⟩
section
variable {prog : Program} {w : World} {A : Around} {E : Value → Shared → Prop} {s : Shared}
theorem call_enum_tup {l : Addr} {items : Array Value} {Q : Value → Shared → Prop} (hL : s.heap.IsTuple l items)
    (q : ∀ h', IsEnum h' (s.heap.objs.size + 1) s.heap.objs.size 0 .none → h'.IsTupleIter s.heap.objs.size l 0 → h'.objs.size = s.heap.objs.size + 2 →
      (∀ b o, s.heap.get? b = some o → h'.get? b = some o) → Q (.ref (s.heap.objs.size + 1)) { s with heap := h' }) :
    wpAny (model prog w) A (call (.type "enumerate") [.ref l]) Q E s := by
  refine callType_new F.called_enumerate (by decide) (F.typeCall_enumerate_1 _) (F.newCall_enumerate_1 _) (fun obj => F.args_object_init_2 obj _) F.entry_enumerate_new
    (enum_new_tup l items) ⟨hL, ?_⟩
  have z : (s.heap.push { cls := .type "tuple_iterator", data := .fields #[.ref l, .int 0 0] }).objs.size = s.heap.objs.size + 1 := Heap.size_push ..
  show _ ∧ _
  rw [z]
  have hE : IsEnum ((s.heap.push { cls := .type "tuple_iterator", data := .fields #[.ref l, .int 0 0] }).push
      { cls := .type "enumerate", data := .fields #[.none, .bool false, .ref s.heap.objs.size, rawInt 0, .none, .none] }) (s.heap.objs.size + 1) s.heap.objs.size 0 .none := by
    have e := Heap.get?_push_size (s.heap.push { cls := .type "tuple_iterator", data := .fields #[.ref l, .int 0 0] })
      (o := { cls := .type "enumerate", data := .fields #[.none, .bool false, .ref s.heap.objs.size, rawInt 0, .none, .none] }) rfl
    rw [z] at e
    exact e
  exact ⟨⟨_, hE, rfl⟩, q _ hE ⟨_, Heap.get?_push_of_some _ (Heap.get?_push_size _ rfl), rfl, rfl⟩ (by rw [Heap.size_push, z]) fun b o x => Heap.get?_push_of_some _ (Heap.get?_push_of_some _ x)⟩
end
/-- the tuple at a, each item in a new pair -/
def IteT (K : PySem.W.Frag) (a : Addr) : It :=
  ⟨fun i H => ∃ (xs : List V) (x : V), SqT K H a xs ∧ xs[i]? = some x, fun i H v H' => ∃ T x, v = .ref T ∧ H T = none ∧ H' = upd H T (.tup [.int (i : Nat), x]) ∧ ∀ xs, SqT K H a xs → xs[i]? = some x, fun i H => ∃ xs : List V, SqT K H a xs ∧ xs.length ≤ i⟩
theorem turn_enumT {P : Program} {w : World} {K : PySem.W.Frag} {elts : List Expr} {kk : Nat} {tpos : Pos} (a e it : Addr) :
    Turn P w K (.Tuple elts kk tpos) (IteT K a) [e, it] e (fun i h => (∃ old, IsEnum h e it ((i : Nat) : Int) old) ∧ h.IsTupleIter it a i ∧ e ≠ it) where
  mem := by simp
  obj := fun i h st b hb => by
    obtain ⟨⟨old, he⟩, ⟨o, ho, hc, hd⟩, _⟩ := st
    rcases (by simpa using hb : b = e ∨ b = it) with rfl | rfl
    · exact ⟨_, he, fun v q => nomatch q⟩
    · exact ⟨o, ho, fun v q => by rw [hd] at q; cases q⟩
  keep := fun i h h' st k => by
    obtain ⟨⟨old, he⟩, hi, hne⟩ := st
    exact ⟨⟨old, k e (by simp) _ he⟩, hi.at fun o q => k it (by simp) o q, hne⟩
  item := by
    intro X hP hw hK hc i pins s σ H E I hf st hg
    subst hP hw hK
    obtain ⟨⟨old, he⟩, hit, hne⟩ := st
    obtain ⟨xs, x, hq, hx⟩ := hg
    obtain ⟨its, rv, p, hz⟩ := I.tuple hq
    obtain ⟨u, hu, ru⟩ := rv.get hx
    have hel : e < s.heap.objs.size := Heap.lt_size he
    have hil : it < s.heap.objs.size := by
      obtain ⟨_, q, _⟩ := hit
      exact Heap.lt_size q
    have hat : a < s.heap.objs.size := by
      obtain ⟨_, q, _⟩ := p
      exact Heap.lt_size q
    have nat : a ≠ it := fun z => by
      obtain ⟨_, q1, q2, _⟩ := p
      obtain ⟨_, q3, q4, _⟩ := hit
      rw [z, q3] at q1
      cases q1
      rw [q4] at q2
      injection q2 with z2
      exact absurd z2 (by decide)
    have nae : e ≠ a := fun z => by
      obtain ⟨_, q1, q2, _⟩ := p
      rw [← z] at q1
      have q3 : s.heap.get? e = some _ := he
      rw [q3] at q1
      cases q1
      injection q2 with z2
      exact absurd z2 (by decide)
    have hlt : i < its.toArray.size := by
      have := (List.getElem?_eq_some_iff.mp hu).1
      simpa using this
    refine wpAny_pyNext_enum_itemD (Draws.tuple (A := X.A.in1) (I.ok.hd hc) it a nat its.toArray) he ⟨hit, p⟩ hlt hne (by simp [nae, hne]) fun x' h' tk hx' ho hst' hT hsz hk => ?_
    have ex : x' = u := by
      have e1 : its[i]? = some x' := by simpa using hx'
      exact Option.some.inj (e1.symm.trans hu)
    subst ex
    refine ⟨_, rfl, wpAny_letOwnedTupleGo_enum (s := { s with heap := h', toks := tk + 1 }) ho fun h'' he' sb => ?_⟩
    have hT2 : h''.get? s.heap.objs.size = some { cls := .type "tuple", data := .seq #[.int i tk, x'] } := (sb.2 _ (Nat.ne_of_gt hel)).trans hT
    have new : ObjOk X.prog X.w (upd H s.heap.objs.size (.tup [.int (i : Nat), x])) h'' s.heap.objs.size (.tup [.int (i : Nat), x]) :=
      ⟨by show 2 ≤ sizeLine; decide, [.int i tk, x'], .cons ⟨_, rfl⟩ (.cons ru .nil), ⟨_, hT2, rfl, _, rfl⟩⟩
    have I1 : Inv X pins σ (upd H s.heap.objs.size (.tup [.int (i : Nat), x])) { s with heap := h'', toks := tk + 1 } :=
      I.turnedNew (ch := [e, it]) (fun b ob hb q => (sb.2 b (fun z => hb (by simp [z]))).trans (hk b ob (fun z => hb (by simp [z])) (fun z => hb (by simp [z])) q)) hf (Nat.le_refl _) new
    have e1 : ((i + 1 : Nat) : Int) = (i : Int) + 1 := by omega
    refine ⟨.ref s.heap.objs.size, _, I1, rfl, ⟨_, x, rfl, I.hok.fresh (Nat.le_refl _), rfl, fun ys hy => by rw [I.tuple_inj hy hq]; exact hx⟩, ⟨⟨x', by rw [e1]; exact he'⟩, hst'.1.at fun o q => (sb.2 it (Ne.symm hne)).trans q, hne⟩, fun b hb => ?_⟩
    have hb' : b < s.heap.objs.size := by
      rcases (by simpa using hb : b = e ∨ b = it) with rfl | rfl
      · exact hel
      · exact hil
    rw [upd_ne (Nat.ne_of_lt hb')]
    exact (hf b hb).1
  done := by
    intro X hP hw hK hc i pins s σ H E I hf st hg
    subst hP hw hK
    obtain ⟨⟨old, he⟩, hit, hne⟩ := st
    obtain ⟨xs, hq, hx⟩ := hg
    obtain ⟨its, rv, p, hz⟩ := I.tuple hq
    obtain ⟨f0, f1, f2, f3, f4, f5⟩ := hf it (by simp)
    have hl := rv.length
    have nat : a ≠ it := fun z => by
      obtain ⟨_, q1, q2, _⟩ := p
      obtain ⟨_, q3, q4, _⟩ := hit
      rw [z, q3] at q1
      cases q1
      rw [q4] at q2
      injection q2 with z2
      exact absurd z2 (by decide)
    -- the iterator stands at or behind the end
    have hT : s.TypeIs (.ref e) "enumerate" := ⟨_, he, rfl⟩
    have hge : its.toArray[i]? = none := by
      rw [Array.getElem?_eq_none_iff]
      simp
      omega
    unfold pyNext
    refine wpAny_bind (wpAny_attempt (wpAny_callSpecial?_slot (name := Str.ofString "__next__") hT F.slot_enumerate_next
      (wpAny_call_entry F.slot_enumerate_next hT F.entry_enumerate_next ?_ (F.args_enumerate_next_1 _))))
    show wpAny _ _ (field (.ref e) 2 >>= _) _ _ _
    refine wpAny_bind (wpAny_field he rfl (x := .ref it) rfl ?_)
    refine wpAny_bind (wpAny_nextOf_tuple_end (I.ok.hd hc) hit p hge fun h' x eb hx' => ?_)
    obtain ⟨o, ho, hco⟩ := hx'
    refine wpAny_bind (wpAny_isInstance (T := "StopIteration") (b := true) ⟨o, ho, hco⟩ isSubtype_stop ?_)
    exact wpAny_pure ⟨rfl, I.turned (t' := s.toks) (fun b o hb q => eb b o hb q) f0 f1 f3 f4 f5⟩
  self := fun A i s Q E st h => by
    obtain ⟨⟨_, he⟩, _⟩ := st
    exact wpAny_pyIter_enum he h
def iEnumT (K : PySem.W.Frag) (ta : TA) : TI := fun σ H R => ta σ H fun vs H1 => ∃ a xs, vs = [.ref a] ∧ SqT K H1 a xs ∧ R (IteT K a) H1
theorem pi_enumT {X : Cx} {e : Expr} {ta : TA} {p pos tpos : Pos} {elts : List Expr} {kk : Nat} (hg : Gl X "enumerate") (hm : X.mg "enumerate" = none) (ha : PA X [e] ta) (hs : starEach [e] X.env = [(false, eval e X.env)] := by rfl) :
    PI X (.Tuple elts kk tpos) (.Call (.Name "enumerate" p) [e] [] pos) (iEnumT X.K ta) := by
  refine ⟨fun pins s σ H R I h => ?_⟩
  refine Call_ (ld_blt I hg hm boot_enumerate (PyProof.Rows.callWith_type1 (thn (ha.run pos pins s σ H _ I h) fun us s1 ⟨vs, H1, I1, r1, q1⟩ => ?_) hs rfl))
  obtain ⟨a, xs, ex, hq, q⟩ := q1
  subst ex
  cases r1 with
  | cons r rr =>
    cases rr
    cases r
    obtain ⟨its, rv, p', hz⟩ := I1.tuple hq
    refine call_enum_tup p' fun h' he hit hsz hk => wpAny_pyIter_enum he ?_
    have I2 : Inv X pins σ H1 { s1 with heap := h' } := I1.kept (t' := s1.toks) hk
    refine ⟨s1.heap.objs.size + 1, [s1.heap.objs.size + 1, s1.heap.objs.size], _, _, H1, rfl, I2, turn_enumT a (s1.heap.objs.size + 1) s1.heap.objs.size, ⟨⟨.none, he⟩, hit, Nat.succ_ne_self _⟩, fun b hb => ?_, q⟩
    have hle : s1.heap.objs.size ≤ b := by
      rcases (by simpa using hb : b = s1.heap.objs.size + 1 ∨ b = s1.heap.objs.size) with z | z <;> rw [z]
      · exact Nat.le_add_right _ _
      · exact Nat.le_refl _
    exact I1.fpOk hle (I1.hok.fresh hle)
section
variable {X : Cx}
/-! ### xs[i], by values -/
def rGetL (K : PySem.W.Frag) : V → V → Hp → VK → Prop := fun o i H Q => ∃ (p : Addr) (xs : List V) (j : Nat) (v : V), o = .ref p ∧ i = .int (j : Int) ∧ SqL K H p xs ∧ xs[j]? = some v ∧ Q v H
theorem get_list : PGet X (rGetL X.K) := by
  intro pins s σ H o i ov iv Q I ro ri h
  obtain ⟨p, xs, j, v, rfl, rfl, hs, hj, q⟩ := h
  cases ro
  obtain ⟨t, rfl⟩ := ri
  obtain ⟨its, rv, hl, hz⟩ := I.list hs
  obtain ⟨u, hu, ru⟩ := rv.get hj
  have hlen := rv.length
  have hn := line63
  have hjl : j < xs.length := (List.getElem?_eq_some_iff.mp hj).1
  have fin : EP X pins σ Q u s := ⟨v, H, I, ru, q⟩
  exact wpAny_getItem_list hl.isList (k := (j : Int)) (t := t) (by omega) (by omega) (x := u) (by simpa using hu) fin
/-! ### {t: v}, t a tuple -/
def tDispT (tk tv : TE) : TE := fun σ H Q => ∀ p, H p = none → tPairs [(tk, tv)] σ (upd H p (.dT [])) fun ps H2 => ∃ x y, ps = [(x, y)] ∧ ∃ (b : Addr) (ks : List Key), x = .ref b ∧ H2 b = some (.tup (ks.map kV)) ∧ H2 p = some (.dT []) ∧ Q (.ref p) (upd H2 p (.dT [(ks, y)]))
theorem pe_dispT {k v : Expr} {tk tv : TE} {pos : Pos} (hu : X.A.units + 1 < cLine) (hk : PE X k tk) (hv : PE X v tv) : PE X (.Dict [some k] [v] pos) (tDispT tk tv) := by
  refine ⟨fun pins s σ H Q I q => ?_⟩
  have hn := I.hok.fresh (Nat.le_refl s.heap.objs.size)
  have I1 := I.laid (a := s.heap.objs.size) (o := .dT []) (h' := s.heap.push { cls := .type "dict", data := .dict #[] }) (t' := s.toks) (fun _ _ q => Heap.get?_push_of_some _ q) (Nat.le_refl _) (dt_empty s.heap I.big)
  have shape : (evalEachOpt [some k] X.env).zip ((evalEach [v] X.env).map fun v => do let x ← v; standAt pos; pure x) = (pairTrees [some k] [v] X.env pos).map fun p => (some p.1, p.2) := by rfl
  rw [arm_eval_Dict, shape, dictDisplay_pairs (pairTrees [some k] [v] X.env pos) (by intro z; cases z) (by show 1 < 17; decide)]
  have room : (tupleKind (mixKind X.prog X.w)).room X.A := show X.A.units < cLine by omega
  refine wpAny_bind (wpAny_standAt (wpAny_bind (wpAny_subDictH (knd := tupleKind (mixKind X.prog X.w)) room (by show 1 ≤ 15; decide) ?_)))
  have ev := (pps_cons (pos := pos) hk hv (pps_nil (pos := pos))).run pins _ σ _ _ I1 (q _ hn)
  · refine thn ev fun ws s2 hh => ?_
    obtain ⟨ps, H2, I2, rel, x, y, rfl, b, ks, rfl, hb, hp, q2⟩ := hh
    obtain ⟨kw, vw, rfl, rk, rv⟩ : ∃ kw vw, ws = [(kw, vw)] ∧ RelV (.ref b) kw ∧ RelV y vw := by
      cases rel with
      | cons h t =>
        cases t
        exact ⟨_, _, rfl, h.1, h.2⟩
    cases (show kw = Value.ref b from rk)
    obtain ⟨z, hd, xs, kt, dd⟩ := dt_of I2.hok hp
    cases kt
    refine ⟨[(ks, b, vw)], ⟨rfl, rfl, key_of I2.hok hb, True.intro⟩, dd, fun h' tk' dd' hs => ?_⟩
    refine wpAny_pure ⟨.ref s.heap.objs.size, _, ?_, rfl, q2⟩
    obtain ⟨o, es, ep, ho, h2, h3, h4, _, h5⟩ := dd'
    refine d_write I2 (by rw [hp]; exact True.intro) hs ⟨o, ho⟩ ⟨by show 1 ≤ sizeLine; decide, hd, [(ks, b, vw)], .cons ⟨rfl, ?_, rv⟩ .nil, o, es, ep, ho, h2, h3, h4, h5⟩
    rw [upd_ne (ne_of hb hp (fun z => nomatch z))]
    exact hb
end
end K23
/-! sorted(d.items()) of a dict from ints to ints. -/
namespace K23
open PySem PySem.Spec PyProof.Rows L2 PySem.W
def PairAt (H : Hp) (x : V) (q : Int × Int) : Prop := ∃ t, x = .ref t ∧ H t = some (.tup [.int q.1, .int q.2])
def entI (q : Int × Int) : Key × V := (Sum.inl q.1, V.int q.2)
section
variable {X : Cx}
def rItemsK : V → List V → Hp → VK → Prop := fun x xs H Q => ∃ (a : Addr) (kvs : List (Key × V)), x = .ref a ∧ xs = [] ∧ H a = some (.dK kvs) ∧ ∀ p, H p = none → Q (.ref p) (upd H p (DX.itemsO p a))
theorem mt_itemsK : MtR X "dict.items" rItemsK := by
  intro pins s σ H x xs v us Q I rx rxs h
  obtain ⟨a, kvs, rfl, rfl, ha, q⟩ := h
  cases rx
  cases rxs
  obtain ⟨z, hd, vs, rel, o, es, ep, ho, hx, hdat, _⟩ := dk_of I.hok ha
  refine DT.callItems (es := es) (ep := ep) hd ⟨o, ho, hx, hdat⟩ ?_
  exact ⟨.ref s.heap.objs.size, upd H s.heap.objs.size (DX.itemsO s.heap.objs.size a), I.laid (t' := s.toks) (fun b u e => Heap.get?_push_of_some _ e) (Nat.le_refl _) (DX.itemsO_ok (Heap.get?_push_size _ rfl)), rfl, q _ (I.hok.fresh (Nat.le_refl _))⟩
def rSortItems : List V → Hp → VK → Prop := fun vs H Q => ∃ (p a : Addr) (ks : List (Int × Int)), vs = [.ref p] ∧ H p = some (DX.itemsO p a) ∧ H a = some (.dK (ks.map entI)) ∧
  ∀ (H' : Hp) (l : Addr) (xs : List V) (ps : List (Int × Int)), (∀ b o, H b = some o → H' b = some o) → H l = none → ps.Perm ks → H' l = some (.lst xs) → Paired (PairAt H') xs ps → Q (.ref l) H'
theorem pairs_get {P : Program} {w : World} : ∀ {es : List DictEntry} {vs : List (Key × Value)} {j : Nat} {e : DictEntry}, Pairs (mixKind P w) es vs → es[j]? = some e → ∃ k v, vs[j]? = some (k, v) ∧ keyIs k e.key = true ∧ e.val = v
  | _, _, _, _, .nil, h => by simp at h
  | _, _, 0, e, .cons (kv := kv) h1 h2 _, h => by
    simp at h
    subst h
    exact ⟨kv.1, kv.2, rfl, h1, h2⟩
  | _, _, j + 1, e, .cons _ _ t, h => by
    obtain ⟨k, v, q1, q2, q3⟩ := pairs_get t (show _ = some e by simpa using h)
    exact ⟨k, v, by simpa using q1, q2, q3⟩
theorem pairs_len {P : Program} {w : World} : ∀ {es : List DictEntry} {vs : List (Key × Value)}, Pairs (mixKind P w) es vs → es.length = vs.length
  | _, _, .nil => rfl
  | _, _, .cons _ _ t => by rw [List.length_cons, List.length_cons, pairs_len t]
theorem each_zip {β : Type} {R : Value → β → Prop} : ∀ {us : List Value} {bs : List β}, us.length = bs.length → (∀ (j : Nat) (u : Value) (b : β), us[j]? = some u → bs[j]? = some b → R u b) → EachIs R us bs
  | [], [], _, _ => .nil
  | [], _ :: _, h, _ => by cases h
  | _ :: _, [], h, _ => by cases h
  | u :: us, b :: bs, h, f => .cons (f 0 u b rfl rfl) (each_zip (Nat.succ.inj h) fun j x y h1 h2 => f (j + 1) x y (by simpa using h1) (by simpa using h2))
theorem each_get {β : Type} {R : Value → β → Prop} : ∀ {us : List Value} {bs : List β} {j : Nat} {b : β}, EachIs R us bs → bs[j]? = some b → ∃ u, us[j]? = some u ∧ R u b
  | _, _, _, _, .nil, h => by simp at h
  | _, _, 0, b, .cons (a := a) r _, h => by
    simp at h
    subst h
    exact ⟨a, rfl, r⟩
  | _, _, j + 1, b, .cons _ t, h => by
    obtain ⟨u, h1, h2⟩ := each_get t (show _ = some b by simpa using h)
    exact ⟨u, by simpa using h1, h2⟩
theorem vals_zip : ∀ {us : List Value} {zs : List (Addr × Int × Int)}, EachIs (fun u (b : Addr × Int × Int) => u = Value.ref b.1) us zs → Vals (zs.map fun z => V.ref z.1) us
  | _, _, .nil => .nil
  | _, _, .cons r t => .cons r (vals_zip t)
theorem paired_of {α β : Type} {R : α → β → Prop} (f : Addr × Int × Int → α) (g : Addr × Int × Int → β) : ∀ {zs : List (Addr × Int × Int)}, (∀ z ∈ zs, R (f z) (g z)) → Paired R (zs.map f) (zs.map g)
  | [], _ => .nil
  | z :: zs, h => .cons (h z List.mem_cons_self) (paired_of f g fun y hy => h y (List.mem_cons_of_mem _ hy))
theorem cr_sortItems (hc : X.calm = true) (hu : X.A.units + 60 < cLine) : CallR X (.builtin "sorted") rSortItems := by
  intro pins s σ H xs us Q I r h
  obtain ⟨p, a, ks, rfl, hp, ha, q⟩ := h
  obtain rfl := Vals.ref1 r
  have view : s.heap.IsItemsView p a := (show ObjOk X.prog X.w H s.heap p (DX.itemsO p a) from I.hok p _ hp).1
  obtain ⟨z, hd, vs, rel, o, es, ep, ho, hx, hdat, _, hpr, _⟩ := dk_of I.hok ha
  have l1 : (ks.map entI).length = vs.length := Paired.length rel
  rw [List.length_map] at l1 z
  have l2 : es.toList.length = vs.length := pairs_len hpr
  have l3 : es.size = ks.length := by
    rw [Array.length_toList] at l2
    omega
  have hh : X.A.handled = none := I.ok.hd hc
  refine DT.sortedI (es := es) (ep := ep) hh view ⟨o, ho, hx, hdat⟩ (by rw [l3]; exact z) fun h' tk as hk hlt hl hG => ?_
  have lak : as.length = ks.length := by omega
  have nd : as.Nodup := List.Pairwise.imp (fun h => Nat.ne_of_lt h) hG.rise
  -- the pairs that were made
  have pr : ∀ (j : Nat) (b : Addr), as[j]? = some b → ∃ (k : Int × Int) (t1 t2 : Tok), ks[j]? = some k ∧ h'.get? b = some { cls := .type "tuple", data := .seq #[Value.int k.1 t1, Value.int k.2 t2] } := by
    intro j b hj
    obtain ⟨en, he, hg⟩ := hG.pairs j b hj
    obtain ⟨key, v, e1, e2, e3⟩ := pairs_get hpr (show es.toList[j]? = some en by simpa using he)
    obtain ⟨kv, e4, e5, e6⟩ := paired_at' rel e1
    rw [List.getElem?_map] at e4
    cases hkj : ks[j]? with
    | none =>
      rw [hkj] at e4
      cases e4
    | some k =>
      rw [hkj] at e4
      have ee : entI k = kv := Option.some.inj e4
      rw [← ee] at e5 e6
      have ek : key = Sum.inl k.1 := e5.symm
      rw [ek] at e2
      obtain ⟨t1, et1⟩ := Value.isInt_shape (show Value.isInt k.1 en.key = true from e2)
      obtain ⟨t2, et2⟩ := (show ∃ t, v = Value.int k.2 t from e6)
      refine ⟨k, t1, t2, rfl, ?_⟩
      rw [hg, et1, e3, et2]
  -- the heap of the sort
  have hob : (h'.push { cls := .type "list", data := .seq (as.map Value.ref).toArray }).get? h'.objs.size = some (seqObj "list" (as.map Value.ref).toArray 0) := Heap.get?_push_size _ rfl
  have ne0 : ∀ b o, h'.get? b = some o → b ≠ h'.objs.size := fun b o e => Nat.ne_of_lt (Heap.lt_size e)
  have ka : ∀ b o, h'.get? b = some o → (h'.push { cls := .type "list", data := .seq (as.map Value.ref).toArray }).get? b = some o := fun b o e => Heap.get?_push_of_some _ e
  generalize hh2 : h'.push { cls := .type "list", data := .seq (as.map Value.ref).toArray } = h2 at hob ka ⊢
  have lz : (as.map Value.ref).length = (as.zip ks).length := by
    rw [List.length_map, List.length_zip, lak, Nat.min_self]
  have e1 : EachIs (fun u (b : Addr × Int × Int) => u = Value.ref b.1) (as.map Value.ref) (as.zip ks) := each_zip lz fun j u b h1 h2 => by
    obtain ⟨h3, h4⟩ := List.getElem?_zip_eq_some.mp h2
    rw [List.getElem?_map, h3] at h1
    exact (Option.some.inj h1).symm
  have e2 : EachIs (fun v (b : Addr × Int × Int) => ∃ rs, Reads h2 v (.tuple [.int b.2.1, .int b.2.2]) rs ∧ h'.objs.size ∉ rs) (as.map Value.ref) (as.zip ks) := each_zip lz fun j u b h1 h2 => by
    obtain ⟨h3, h4⟩ := List.getElem?_zip_eq_some.mp h2
    rw [List.getElem?_map, h3] at h1
    obtain rfl := (Option.some.inj h1).symm
    obtain ⟨k, t1, t2, hkj, hg⟩ := pr j b.1 h3
    rw [h4] at hkj
    cases hkj
    exact ⟨[], PyProof.Rows.reads_tuple_at (ka _ _ hg) rfl rfl (PyProof.Rows.readsAll_cons_val (.int _ _) (PyProof.Rows.readsAll_cons_val (.int _ _) .nil)), by simp⟩
  refine list_sort_data (s := { s with heap := h2, toks := tk }) (A := X.A.in1) (enc := fun b : Addr × Int × Int => PyData.tuple [.int b.2.1, .int b.2.2]) hob e1 e2 (AllAlike.of fun b b' => by simp [alike, alikeAll]) (Sortable.tuples fun b => ⟨_, _, rfl⟩)
    (by rw [← lz, List.length_map, lak]; exact z) (fun b _ => by show X.A.units + 1 + 1 + _ < cLine; simp [PyData.depth, PyData.depthAll]; omega) fun out hlen eo => ?_
  show EP X pins σ Q (.ref h'.objs.size) { s with heap := sortedHeap h2 h'.objs.size (as.map Value.ref) (List.toArray out), toks := tk }
  generalize hzs : (as.zip ks).mergeSort (dataLe false fun b : Addr × Int × Int => PyData.tuple [.int b.2.1, .int b.2.2]) = zs at eo
  have pz : zs.Perm (as.zip ks) := by
    rw [← hzs]
    exact List.mergeSort_perm _ _
  have idx : ∀ y ∈ zs, ∃ j : Nat, as[j]? = some y.1 ∧ ks[j]? = some y.2 := by
    intro y hy
    obtain ⟨j, hj⟩ := List.mem_iff_getElem?.mp (pz.mem_iff.mp hy)
    exact ⟨j, List.getElem?_zip_eq_some.mp hj⟩
  have hperm : (zs.map (·.2)).Perm ks := by
    have e := pz.map (·.2)
    have m2 : (as.zip ks).map (·.2) = ks := List.map_snd_zip (by rw [lak]; exact Nat.le_refl _)
    rw [m2] at e
    exact e
  -- behind the sort
  have kF : ∀ b o, b ≠ h'.objs.size → h2.get? b = some o → (sortedHeap h2 h'.objs.size (as.map Value.ref) (List.toArray out)).get? b = some o := fun b o hb e => (sortedHeap_old hb (Heap.lt_size e)).trans e
  have kS : ∀ b o, s.heap.get? b = some o → (sortedHeap h2 h'.objs.size (as.map Value.ref) (List.toArray out)).get? b = some o := fun b o e => kF b o (ne0 _ _ (hk b o e)) (ka b o (hk b o e))
  obtain ⟨eF, heF⟩ := sortedHeap_at (vs := as.map Value.ref) (out := List.toArray out) hob
  have I1 : Inv X pins σ H { s with heap := sortedHeap h2 h'.objs.size (as.map Value.ref) (List.toArray out), toks := tk } := I.kept (t' := tk) kS
  have hn0 : H h'.objs.size = none := I.hok.fresh (Nat.le_of_lt hlt)
  have hlz : (zs.map fun z => V.ref z.1).length ≤ sizeLine := by
    have e := hperm.length_eq
    rw [List.length_map] at e
    rw [List.length_map]
    omega
  have I2 : Inv X pins σ (upd H h'.objs.size (.lst (zs.map fun z => V.ref z.1))) { s with heap := sortedHeap h2 h'.objs.size (as.map Value.ref) (List.toArray out), toks := tk } :=
    Inv.take (s := { s with heap := sortedHeap h2 h'.objs.size (as.map Value.ref) (List.toArray out), toks := tk }) I1 (h' := sortedHeap h2 h'.objs.size (as.map Value.ref) (List.toArray out)) (t' := tk) (fun b ob _ e => e) (I.fpOk (Nat.le_of_lt hlt) hn0) ⟨hlz, out, eF, vals_zip eo, heF⟩
  obtain ⟨H2, I3, g, qt⟩ := DX.takeT (P := fun b vs => ∃ (j : Nat) (k : Int × Int), as[j]? = some b ∧ ks[j]? = some k ∧ vs = [.int k.1, .int k.2]) I as _ I2 nd fun b hb => by
    obtain ⟨j, hj⟩ := List.mem_iff_getElem?.mp hb
    obtain ⟨k, t1, t2, hkj, hg⟩ := pr j b hj
    have hbl : s.heap.objs.size ≤ b := Nat.le_of_lt (hG.above b hb)
    refine ⟨hbl, ?_, [.int k.1, .int k.2], ⟨j, k, hj, hkj, rfl⟩, fun H3 => ⟨(by rw [sizeLine_eq]; show 2 ≤ 16777216; omega), [Value.int k.1 t1, Value.int k.2 t2], .cons ⟨_, rfl⟩ (.cons ⟨_, rfl⟩ .nil), ⟨_, kF _ _ (ne0 _ _ hg) (ka _ _ hg), rfl, 0, rfl⟩⟩⟩
    rw [upd_ne (ne0 _ _ hg)]
    exact I.hok.fresh hbl
  have gr : ∀ b o, H b = some o → H2 b = some o := fun b o e => g b o (by rw [upd_ne (ne_of_none e hn0)]; exact e)
  refine ⟨.ref h'.objs.size, H2, I3, rfl, q H2 h'.objs.size (zs.map fun z => V.ref z.1) (zs.map (·.2)) gr hn0 hperm (g _ _ upd_same) (paired_of (fun z => V.ref z.1) (·.2) fun y hy => ?_)⟩
  obtain ⟨i, i1, i2⟩ := idx y hy
  obtain ⟨vs', ⟨j, k, j1, j2, ev⟩, hH⟩ := qt y.1 (List.mem_of_getElem? i1)
  have eij : i = j := (List.getElem?_inj (List.getElem?_eq_some_iff.mp i1).1 nd).mp (i1.trans j1.symm)
  subst eij
  have ee : k = y.2 := Option.some.inj (j2.symm.trans i2)
  rw [ev, ee] at hH
  exact ⟨y.1, rfl, hH⟩
end
end K23
/-! Rules with the written part named: for the blocks of comprehensions. -/
namespace K23
open PySem PySem.Spec PyProof.Rows L2
section
variable {X : Cx}
theorem ix_tupK (K : PySem.W.Frag) (hK : X.K = K := by rfl) : IxR X (rIxT K) := by subst hK; exact ix_tup
theorem ix_listK (K : PySem.W.Frag) (hK : X.K = K := by rfl) : IxR X (rIxL K) := by subst hK; exact ix_list
theorem op_inK (K : PySem.W.Frag) (hK : X.K = K := by rfl) : OpR X (compareOp .In) (rIn K false) := by subst hK; exact op_in_seq
theorem op_notInK (K : PySem.W.Frag) (hK : X.K = K := by rfl) : OpR X (compareOp .NotIn) (rIn K true) := by subst hK; exact op_notIn_seq
def rLenS (K : PySem.W.Frag) : List V → Hp → VK → Prop := fun xs H Q => ∃ p ys, xs = [.ref p] ∧ (SqL K H p ys ∨ SqT K H p ys) ∧ Q (.int ys.length) H
theorem call_lenK (K : PySem.W.Frag) (hK : X.K = K := by rfl) : CallR X (.builtin "len") (rLenS K) := by subst hK; exact call_len_seq
def rTupOf (K : PySem.W.Frag) : List V → Hp → VK → Prop := fun xs H Q => ∃ p ys, xs = [.ref p] ∧ ((SqL K H p ys ∧ ∀ l, H l = none → Q (.ref l) (upd H l (.tup ys))) ∨ (SqT K H p ys ∧ Q (.ref p) H))
theorem call_tupleK (K : PySem.W.Frag) (hK : X.K = K := by rfl) : CallR X (.type "tuple") (rTupOf K) := by subst hK; exact call_tuple_of
theorem cr_sortHK (K : PySem.W.Frag) (hu : X.A.units + 60 < cLine) (hK : X.K = K := by rfl) : CallR X (.builtin "sorted") (rSortH K) := by subst hK; exact cr_sortH hu
theorem cr_sortITK (K : PySem.W.Frag) (hu : X.A.units + 60 < cLine) (hK : X.K = K := by rfl) : CallR X (.builtin "sorted") (rSortIT K) := by subst hK; exact cr_sortIT hu
theorem op_leEK (K : PySem.W.Frag) (hu : X.A.units + 60 < cLine) (hK : X.K = K := by rfl) : OpR X (compareOp .LtE) (rLeE K) := by subst hK; exact op_leE hu
theorem op_ltEK (K : PySem.W.Frag) (hu : X.A.units + 60 < cLine) (hK : X.K = K := by rfl) : OpR X (compareOp .Lt) (rLtE K) := by subst hK; exact op_ltE hu
theorem op_catAK (K : PySem.W.Frag) (hK : X.K = K := by rfl) : OpR X (binaryOp .Add) (rCatA K) := by subst hK; exact op_catA
theorem call_isBK (K : PySem.W.Frag) (T : String) (hK : X.K = K := by rfl) : CallR X (.builtin "isinstance") (rIsB K T) := by subst hK; exact call_isB T
section
variable {e : Expr} {f : Str} {pos : Pos} {ta : TE}
theorem pe_fldK (K : PySem.W.Frag) (he : PE X e ta) (hb : attributeBase e f X.env (eval e X.env) = eval e X.env) (hK : X.K = K := by rfl) : PE X (.Attribute e f pos) (tFld K ta f) := by subst hK; exact pe_fld he hb
theorem pi_tupK (K : PySem.W.Frag) {tg : Expr} {tl : TE} (hl : PE X e tl) (hK : X.K = K := by rfl) : PI X tg e (iTup K tl) := by subst hK; exact pi_tup hl
theorem pi_listK (K : PySem.W.Frag) {tg : Expr} {tl : TE} (hl : PE X e tl) (hK : X.K = K := by rfl) : PI X tg e (iList K tl) := by subst hK; exact pi_list hl
end
section
variable {o e : Expr} {es : List Expr} {name : Str} {T id : String} {to : TE} {t : TA} {r : V → List V → Hp → VK → Prop} {apos cpos : Pos}
theorem pe_bmK (K : PySem.W.Frag) (pa : PlainAttrs T) (slot : Slot T name id) (hty : typeOf (.builtin id) = pure (.type "method_descriptor")) (hm : MtR X id r) (ho : PE X o to) (ha : PA X (e :: es) t)
    (hK : X.K = K := by rfl) (hbase : attributeBase o name X.env (eval o X.env) = eval o X.env := by rfl)
    (hfew : ((backTo cpos (starEach (e :: es) X.env)).all (fun x => !x.1) && (backToKw cpos (keywordEach [] X.env)).all (fun x => x.1.isSome)
      && decide ((e :: es).length + ([] : List Keyword).length + (if ([] : List Keyword).isEmpty then 0 else 1) < 30)) = true := by rfl)
    (hline : (apos.endLine == cpos.line) = true := by rfl) (hs : starEach (e :: es) X.env = (false, eval e X.env) :: starEach es X.env := by rfl) (hplain : (backTo cpos (starEach es X.env)).any (·.1) = false := by rfl) :
    PE X (.Call (.Attribute o name apos) (e :: es) [] cpos) (tBM K T r to t) := by
  subst hK
  exact pe_bm pa slot hty hm ho ha hbase hfew hline hs hplain
end
end
end K23
/-! The pool and what is drawn from it. -/
namespace K23
open PySem PySem.Spec PyProof.Rows L2
/-- all but p and c stands as it stood -/
def Fr2 (p c : Addr) (H H' : Hp) : Prop := ∀ b o, b ≠ p → b ≠ c → H b = some o → H' b = some o
theorem Fr2.refl (p c : Addr) (H : Hp) : Fr2 p c H H := fun _ _ _ _ e => e
theorem Fr2.trans {p c : Addr} {H H1 H2 : Hp} (a : Fr2 p c H H1) (b : Fr2 p c H1 H2) : Fr2 p c H H2 := fun x o n1 n2 e => b x o n1 n2 (a x o n1 n2 e)
theorem Fr2.of {p c : Addr} {H H' : Hp} (a : Same H H') : Fr2 p c H H' := fun x o _ _ e => a x o e
/-- the pool at p, its cells at c -/
structure PoolAt (H : Hp) (p c : Addr) : Prop where
  ex : ∃ (s n : Int) (cs : List Int), H p = some (.lst [.int s, .int n, .ref c]) ∧ H c = some (.lst (cs.map V.int)) ∧ ∀ z ∈ cs, 0 ≤ z
theorem PoolAt.same {H H' : Hp} {p c : Addr} (h : PoolAt H p c) (k : Same H H') : PoolAt H' p c := by
  obtain ⟨s, n, cs, h1, h2, h3⟩ := h.ex
  exact ⟨s, n, cs, k _ _ h1, k _ _ h2, h3⟩
theorem pool_ne {H : Hp} {p c : Addr} {s n : Int} {cs : List Int} (h1 : H p = some (.lst [.int s, .int n, .ref c])) (h2 : H c = some (.lst (cs.map V.int))) : p ≠ c := by
  refine ne_of h1 h2 fun e => ?_
  injection e with e
  match cs, e with
  | [], e => cases e
  | [_], e => cases e
  | [_, _], e => cases e
  | _ :: _ :: _ :: _, e =>
    injection e with _ e
    injection e with _ e
    injection e with e _
    cases e
/-- tuples are neither -/
theorem Fr2.tup {p c a : Addr} {H H' : Hp} {xs : List V} (P : PoolAt H p c) (k : Fr2 p c H H') (h : H a = some (.tup xs)) : H' a = some (.tup xs) := by
  obtain ⟨s, n, cs, h1, h2, _⟩ := P.ex
  exact k a _ (ne_of h h1 (fun z => nomatch z)) (ne_of h h2 (fun z => nomatch z)) h
section
variable {P : Program} {w : World} {K : PySem.W.Frag} {mg : Str → Option Value} {base : Heap}
abbrev n_law_draw : List Str := ["_law_pool_here", "_law_many", "_law_cells", "_law_digit", "_law_mixed_here"]
theorem sc_law_draw : FnScope n_law_draw ["_law_pool_here", "_law_many"] (defScope s_law_draw) := ⟨rfl, rfl, rfl, by decide +kernel, rfl, by decide +kernel, by decide +kernel⟩
def spDraw : Sp := fun vs H Q _ => ∃ (p c : Addr) (m : Int), vs = [.ref p, .int m] ∧ PoolAt H p c ∧ 0 < m ∧ m < 1073741824 ∧
  ∀ (d : Int) (H' : Hp), 0 ≤ d → d < m → Fr2 p c H H' → PoolAt H' p c → Q (.int d) H'
theorem ok_law_draw (T : Txt K mg) (D : Df K mg "_law_draw" s_law_draw ["_law_pool_here", "_law_many"]) : Cal CX0 P w K mg base 1 "_law_draw" spDraw := by
  refine D.cal sc_law_draw (fun vs H Q E h => ?_) (fun f cdv A outer s H vs Q E hr h => ?_)
  · obtain ⟨p, c, m, rfl, _⟩ := h
    rfl
  · obtain ⟨p, c, m, rfl, hP, m0, m1, q⟩ := h
    obtain ⟨sd, n, cs, h1, h2, h3⟩ := hP.ex
    have npc := pool_ne h1 h2
    have nd := sc_law_draw.nd
    refine ⟨_, pss_cons (ps_asg (pe_op op_add (pe_ix ix_list (pv 0) pe_int (fun _ _ => rfl)) pe_int) (pg_sub (pv 0) pe_int set_list))
      (pss_cons (ps_set (i := 2) nd rfl (Or.inl rfl) (pe_ix ix_list (pv 0) pe_int (fun _ _ => rfl)))
      (pss_cons (ps_if (pt_cmpR op_gt (pe_callB call_len_seq (by rfl) T.len (by decide +kernel) (pa_cons (pv 2) pa_nil)) pe_int (nomark _)) (pss_cons (ps_set (i := 3) nd rfl (Or.inl rfl) (pe_op op_mod (pe_callTy call_int1 (by rfl) T.int (by decide +kernel) (pa_cons (pe_ix ix_list (pv 2) pe_int (fun _ _ => rfl)) pa_nil)) (pv 1)))
        (pss_cons (ps_asg (pe_op op_fdiv (pe_callTy call_int1 (by rfl) T.int (by decide +kernel) (pa_cons (pe_ix ix_list (pv 2) pe_int (fun _ _ => rfl)) pa_nil)) (pv 1)) (pg_sub (pv 2) pe_int set_list))
        (pss_cons (ps_if (pt_cmpR op_eq (pe_ix ix_list (pv 2) pe_int (fun _ _ => rfl)) pe_int (nomark _)) (pss_one (ps_expr (pe_bm PySem.F.plainAttrs_list PySem.F.slot_list_pop PySem.F.type_list_pop mt_popAt (pv 2) (pa_cons pe_int pa_nil)))) pss_nil)
        (pss_one (ps_ret (pv 3)))))) pss_nil)
      (pss_cons (ps_set (i := 4) nd rfl (Or.inl rfl) (pe_op op_mod (pe_callTy call_int1 (by rfl) T.int (by decide +kernel) (pa_cons (pe_op op_mul (pe_op op_add (pe_ix ix_list (pv 0) pe_int (fun _ _ => rfl)) (pe_op op_mul pe_int (pe_ix ix_list (pv 0) pe_int (fun _ _ => rfl)))) pe_int) pa_nil)) pe_int))
      (pss_cons (ps_set (i := 4) nd rfl (Or.inl rfl) (pe_op op_mod (pe_callTy call_int1 (by rfl) T.int (by decide +kernel) (pa_cons (pe_op op_mul (pv 4) (pe_op op_add (pe_op op_fdiv (pv 4) pe_int) pe_int)) pa_nil)) pe_int))
      (pss_cons (ps_set (i := 4) nd rfl (Or.inl rfl) (pe_op op_mod (pe_callTy call_int1 (by rfl) T.int (by decide +kernel) (pa_cons (pe_op op_mul (pv 4) (pe_op op_add (pe_op op_fdiv (pv 4) pe_int) pe_int)) pa_nil)) pe_int))
      (pss_one (ps_ret (pe_op op_mod (pe_callTy call_int1 (by rfl) T.int (by decide +kernel) (pa_cons (pe_op op_fdiv (pv 4) pe_int) pa_nil)) (pv 1))))))))), ?_⟩
    -- pool[1] = pool[1] + 1
    refine ⟨_, rfl, p, _, 1, .int n, rfl, rfl, SqL.of h1, atI_nat (j := 1) rfl, n, 1, rfl, rfl, _, rfl, p, _, 1, 1, rfl, rfl, h1, rfl, ?_⟩
    have g1 : upd H p (.lst [.int sd, .int (n + 1), .ref c]) p = some (.lst [.int sd, .int (n + 1), .ref c]) := upd_same
    have g2 : upd H p (.lst [.int sd, .int (n + 1), .ref c]) c = some (.lst (cs.map V.int)) := by
      rw [upd_ne npc.symm]
      exact h2
    have fr1 : Fr2 p c H (upd H p (.lst [.int sd, .int (n + 1), .ref c])) := fun b o n1 n2 e => by
      rw [upd_ne n1]
      exact e
    have eU : upd H p (.lst ([V.int sd, V.int n, V.ref c].set 1 (V.int (n + 1)))) = upd H p (.lst [.int sd, .int (n + 1), .ref c]) := rfl
    rw [eU]
    generalize upd H p (.lst [.int sd, .int (n + 1), .ref c]) = H1 at g1 g2 fr1 ⊢
    -- cells = pool[2]; if len(cells) > 0
    refine ⟨_, rfl, p, _, 2, .ref c, rfl, rfl, SqL.of g1, atI_nat (j := 2) rfl, ?_⟩
    refine ⟨_, rfl, c, _, rfl, .inl (SqL.of g2), _, 0, rfl, rfl, _, rfl, ite2 (fun e => ?_) (fun e => ?_)⟩
    · obtain ⟨z, r, rfl⟩ : ∃ z r, cs = z :: r := by
        cases cs with
        | nil => simp at e
        | cons z r => exact ⟨z, r, rfl⟩
      have z0 : 0 ≤ z := h3 z List.mem_cons_self
      -- digit = int(cells[0]) % many; cells[0] = int(cells[0]) // many
      refine ⟨_, rfl, c, _, 0, .int z, rfl, rfl, SqL.of g2, atI_nat (j := 0) rfl, .inl ⟨z, rfl, _, rfl, z, m, rfl, rfl, m0, ?_⟩⟩
      refine ⟨_, rfl, c, _, 0, .int z, rfl, rfl, SqL.of g2, atI_nat (j := 0) rfl, .inl ⟨z, rfl, _, rfl, z, m, rfl, rfl, ⟨m0, m1⟩, _, rfl, c, _, 0, 0, rfl, rfl, g2, by rw [List.map_cons, List.length_cons]; unfold ixN; rw [if_pos (by decide), if_pos (by omega)]; rfl, ?_⟩⟩
      have eU2 : upd H1 c (.lst (((z :: r).map V.int).set 0 (V.int (z / m)))) = upd H1 c (.lst ((z / m :: r).map V.int)) := rfl
      rw [eU2]
      have k1 : upd H1 c (.lst ((z / m :: r).map V.int)) c = some (.lst ((z / m :: r).map V.int)) := upd_same
      have k2 : upd H1 c (.lst ((z / m :: r).map V.int)) p = some (.lst [.int sd, .int (n + 1), .ref c]) := by
        rw [upd_ne npc]
        exact g1
      have dm0 : 0 ≤ z / m := Int.ediv_nonneg z0 (Int.le_of_lt m0)
      have r0 : ∀ y ∈ r, 0 ≤ y := fun y hy => h3 y (List.mem_cons_of_mem _ hy)
      have b1 := Int.emod_nonneg z (Int.ne_of_gt m0)
      have b2 := Int.emod_lt_of_pos z m0
      have fr2 : Fr2 p c H (upd H1 c (.lst ((z / m :: r).map V.int))) := fr1.trans fun b o n1 n2 e => by
        rw [upd_ne n2]
        exact e
      generalize upd H1 c (.lst ((z / m :: r).map V.int)) = H2 at k1 k2 fr2 ⊢
      -- if cells[0] == 0: cells.pop(0)
      refine ⟨_, rfl, c, _, 0, .int (z / m), rfl, rfl, SqL.of k1, atI_nat (j := 0) rfl, rfl, _, rfl, ite2 (fun e2 => ?_) (fun e2 => ?_)⟩
      · refine ⟨_, rfl, .inl ⟨rfl, _, SqL.of k1⟩, c, _, 0, 0, .int (z / m), rfl, rfl, k1, by decide, by decide, ?_, rfl, ?_⟩
        · exact seqIndex_of (by decide) (by rw [List.map_cons, List.length_cons]; omega)
        · refine ⟨_, rfl, q _ _ b1 b2 (fr2.trans fun b o n1 n2 e => by rw [upd_ne n2]; exact e) ⟨sd, n + 1, r, ?_, upd_same, r0⟩⟩
          rw [upd_ne npc]
          exact k2
      · refine ⟨_, rfl, q _ _ b1 b2 fr2 ⟨sd, n + 1, z / m :: r, k2, k1, fun y hy => ?_⟩⟩
        rcases List.mem_cons.mp hy with rfl | hy
        · exact dm0
        · exact r0 y hy
    · -- the mixed ones
      have hP1 : PoolAt H1 p c := ⟨sd, n + 1, cs, g1, g2, h3⟩
      have bb : ∀ (x : Int) {k : Int}, 0 < k → 0 ≤ x % k ∧ x % k < k := fun x k hk => ⟨Int.emod_nonneg x (Int.ne_of_gt hk), Int.emod_lt_of_pos x hk⟩
      have lim : ∀ x : Int, 0 ≤ x % 2147483647 ∧ x % 2147483647 < 2147483647 → -(2 ^ 64) < x % 2147483647 ∧ x % 2147483647 < 2 ^ 64 := fun x h => ⟨by omega, by omega⟩
      refine ⟨_, rfl, p, _, 0, .int sd, rfl, rfl, SqL.of g1, atI_nat (j := 0) rfl, _, rfl, p, _, 1, .int (n + 1), rfl, rfl, SqL.of g1, atI_nat (j := 1) rfl, 7919, n + 1, rfl, rfl, .inl ⟨by decide, by decide⟩, sd, _, rfl, rfl, _, 48271, rfl, rfl, .inr ⟨by decide, by decide⟩, .inl ⟨_, rfl, _, 2147483647, rfl, rfl, (by show (0 : Int) < 2147483647; decide), ?_⟩⟩
      refine ⟨_, rfl, _, rfl, _, 1009, rfl, rfl, ⟨by decide, by decide⟩, _, 69621, rfl, rfl, _, _, rfl, rfl, .inl (lim _ (bb _ (by decide))), .inl ⟨_, rfl, _, 2147483647, rfl, rfl, (by show (0 : Int) < 2147483647; decide), ?_⟩⟩
      refine ⟨_, rfl, _, rfl, _, 2003, rfl, rfl, ⟨by decide, by decide⟩, _, 40692, rfl, rfl, _, _, rfl, rfl, .inl (lim _ (bb _ (by decide))), .inl ⟨_, rfl, _, 2147483399, rfl, rfl, (by show (0 : Int) < 2147483399; decide), ?_⟩⟩
      exact ⟨_, rfl, _, 16, rfl, rfl, ⟨by decide, by decide⟩, .inl ⟨_, rfl, _, rfl, _, m, rfl, rfl, m0, q _ _ (bb _ m0).1 (bb _ m0).2 fr1 hP1⟩⟩
end
end K23
/-! Houses and lots in the heap; what is drawn; half of the shares. -/
namespace K23
open PySem PySem.Spec PyProof.Rows L2
/-! ### tuples stay -/
def TS (H H' : Hp) : Prop := ∀ a xs, H a = some (.tup xs) → H' a = some (.tup xs)
theorem TS.of {H H' : Hp} (k : Same H H') : TS H H' := fun a xs h => k a _ h
theorem TS.trans {H H1 H2 : Hp} (a : TS H H1) (b : TS H1 H2) : TS H H2 := fun x xs h => b x xs (a x xs h)
theorem TS.refl (H : Hp) : TS H H := fun _ _ h => h
theorem TS.fr2 {p c : Addr} {H H' : Hp} (P : PoolAt H p c) (k : Fr2 p c H H') : TS H H' := fun _ _ h => k.tup P h
theorem TS.upd {H : Hp} {p : Addr} {o : HO} (h : H p = none) : TS H (upd H p o) := fun a xs e => by
  rw [upd_ne (ne_of_none e h)]
  exact e
theorem TS.lst {H : Hp} {p : Addr} {xs : List V} {o : HO} (h : H p = some (.lst xs)) : TS H (L2.upd H p o) := fun a ys e => by
  rw [upd_ne (ne_of e h (fun z => nomatch z))]
  exact e
theorem same_upd {H : Hp} {p : Addr} {o : HO} (h : H p = none) : Same H (upd H p o) := fun b x e => by
  rw [upd_ne (ne_of_none e h)]
  exact e
theorem paired_ts {α β : Type} {R R' : α → β → Prop} (h : ∀ a b, R a b → R' a b) : ∀ {xs : List α} {ys : List β}, Paired R xs ys → Paired R' xs ys
  | _, _, .nil => .nil
  | _, _, .cons a t => .cons (h _ _ a) (paired_ts h t)
theorem paired_snoc {α β : Type} {R : α → β → Prop} : ∀ {xs : List α} {ys : List β} {x : α} {y : β}, Paired R xs ys → R x y → Paired R (xs ++ [x]) (ys ++ [y])
  | _, _, _, _, .nil, h => .cons h .nil
  | _, _, _, _, .cons a t, h => .cons a (paired_snoc t h)
theorem paired_app {α β : Type} {R : α → β → Prop} : ∀ {xs : List α} {ys : List β} {xs' : List α} {ys' : List β}, Paired R xs ys → Paired R xs' ys' → Paired R (xs ++ xs') (ys ++ ys')
  | _, _, _, _, .nil, h => h
  | _, _, _, _, .cons a t, h => .cons a (paired_app t h)
theorem RowAt.ts {H H' : Hp} {x : V} {r : List Int} (h : RowAt H x r) (k : TS H H') : RowAt H' x r := by
  obtain ⟨a, e, h⟩ := h
  exact ⟨a, e, k _ _ h⟩
theorem HdAt.ts {H H' : Hp} {x : V} {d : Hd} (h : HdAt H x d) (k : TS H H') : HdAt H' x d := by
  obtain ⟨a, e, h⟩ := h
  exact ⟨a, e, k _ _ h⟩
/-- a house: a tuple of holders; houses: a tuple of houses; parts: a pair of folk and houses -/
def HsAt (H : Hp) (x : V) (ds : List Hd) : Prop := ∃ a xs, x = .ref a ∧ H a = some (.tup xs) ∧ Paired (HdAt H) xs ds
def WsAt (H : Hp) (x : V) (hs : List (List Hd)) : Prop := ∃ a xs, x = .ref a ∧ H a = some (.tup xs) ∧ Paired (HsAt H) xs hs
def PartsAt (H : Hp) (x : V) (folk : Int) (hs : List (List Hd)) : Prop := ∃ a y, x = .ref a ∧ H a = some (.tup [.int folk, y]) ∧ WsAt H y hs
theorem HsAt.ts {H H' : Hp} {x : V} {ds : List Hd} (h : HsAt H x ds) (k : TS H H') : HsAt H' x ds := by
  obtain ⟨a, xs, e, h, p⟩ := h
  exact ⟨a, xs, e, k _ _ h, paired_ts (fun _ _ q => q.ts k) p⟩
theorem WsAt.ts {H H' : Hp} {x : V} {hs : List (List Hd)} (h : WsAt H x hs) (k : TS H H') : WsAt H' x hs := by
  obtain ⟨a, xs, e, h, p⟩ := h
  exact ⟨a, xs, e, k _ _ h, paired_ts (fun _ _ q => q.ts k) p⟩
theorem PartsAt.ts {H H' : Hp} {x : V} {folk : Int} {hs : List (List Hd)} (h : PartsAt H x folk hs) (k : TS H H') : PartsAt H' x folk hs := by
  obtain ⟨a, y, e, h, p⟩ := h
  exact ⟨a, y, e, k _ _ h, p.ts k⟩
/-! ### half of the shares -/
def Hd.ours (lot S : List Int) : Hd → Bool
  | .f k => decide (k ∈ lot)
  | .h k => decide (k ∈ S)
def halfD (ds : List Hd) (lot S : List Int) : Bool := decide (ds.length < 2 * (ds.filter (Hd.ours lot S)).length)
/-- whether a lot and some houses have more than half of the shares of house k -/
def hfOf (hs : List (List Hd)) (lot : List Int) (k : Int) (S : List Int) : Bool := halfD (hs.getD k.toNat []) lot S
theorem ours_mono {lot S T : List Int} (h : ∀ x ∈ S, x ∈ T) (d : Hd) (e : Hd.ours lot S d = true) : Hd.ours lot T d = true := by
  cases d with
  | f k => exact e
  | h k => exact decide_eq_true (h k (of_decide_eq_true e))
theorem filter_len_mono {α : Type} {p q : α → Bool} (h : ∀ x, p x = true → q x = true) : ∀ l : List α, (l.filter p).length ≤ (l.filter q).length
  | [] => Nat.le_refl _
  | x :: l => by
    have ih := filter_len_mono h l
    rw [List.filter_cons, List.filter_cons]
    by_cases e : p x = true
    · rw [if_pos e, if_pos (h x e), List.length_cons, List.length_cons]
      omega
    · rw [if_neg e]
      by_cases g : q x = true
      · rw [if_pos g, List.length_cons]
        omega
      · rw [if_neg g]
        exact ih
theorem hfOf_mono (hs : List (List Hd)) (lot : List Int) : Mono (hfOf hs lot) := fun k S T h e => by
  have e' := of_decide_eq_true e
  have := filter_len_mono (p := Hd.ours lot S) (q := Hd.ours lot T) (ours_mono h) (hs.getD k.toNat [])
  exact decide_eq_true (by omega)
/-! ### in -/
theorem inV_ints (k : Int) : ∀ ns : List Int, inV (.int k) (ns.map V.int) = decide (k ∈ ns)
  | [] => rfl
  | n :: ns => by
    have ih := inV_ints k ns
    have e : inV (.int k) ((n :: ns).map V.int) = (eqV (.int n) (.int k) || inV (.int k) (ns.map V.int)) := rfl
    have e2 : eqV (.int n) (.int k) = decide (k = n) := by
      show (n == k) = decide (k = n)
      by_cases h : k = n
      · subst h
        simp
      · have h' : ¬ n = k := fun z => h z.symm
        simp [h, h']
    rw [e, ih, e2]
    simp
theorem flat_ints (ns : List Int) : (ns.map V.int).all flatV = true := by
  rw [List.all_map, List.all_eq_true]
  intro x _
  rfl
/-- x in a list or a tuple of ints -/
theorem in_ints {K : PySem.W.Frag} {H : Hp} {k : Int} {a : Addr} {ns : List Int} {Q : VK} (h : SqL K H a (ns.map V.int) ∨ SqT K H a (ns.map V.int)) (q : Q (.bl (decide (k ∈ ns))) H) : rIn K false (.int k) (.ref a) H Q :=
  ⟨a, _, rfl, h, rfl, flat_ints ns, by rw [if_neg Bool.false_ne_true, inV_ints]; exact q⟩
theorem notin_ints {K : PySem.W.Frag} {H : Hp} {k : Int} {a : Addr} {ns : List Int} {Q : VK} (h : SqL K H a (ns.map V.int) ∨ SqT K H a (ns.map V.int)) (q : Q (.bl (!decide (k ∈ ns))) H) : rIn K true (.int k) (.ref a) H Q :=
  ⟨a, _, rfl, h, rfl, flat_ints ns, by rw [if_pos rfl, inV_ints]; exact q⟩
/-- a list or a tuple of these ints at x -/
def SeqI (K : PySem.W.Frag) (H : Hp) (x : V) (ns : List Int) : Prop := ∃ a, x = .ref a ∧ (SqL K H a (ns.map V.int) ∨ SqT K H a (ns.map V.int))
theorem RowAt.seq {K : PySem.W.Frag} {H : Hp} {x : V} {r : List Int} (h : RowAt H x r) : SeqI K H x r := by
  obtain ⟨a, e, h⟩ := h
  exact ⟨a, e, .inr (SqT.of h)⟩
theorem sizeBig : (1000000 : Nat) < sizeLine := by decide
section
variable {P : Program} {w : World} {K : PySem.W.Frag} {mg : Str → Option Value} {base : Heap}
abbrev n_law_has_half : List Str := ["_law_parts_here", "_law_house", "_law_lot_here", "_law_houses", "_law_shares", "_law_ours", "_law_one"]
theorem sc_law_has_half : FnScope n_law_has_half ["_law_parts_here", "_law_house", "_law_lot_here", "_law_houses"] (defScope s_law_has_half) := ⟨rfl, rfl, rfl, by decide +kernel, rfl, by decide +kernel, by decide +kernel⟩
def spLHalf (K : PySem.W.Frag) : Sp := fun vs H Q _ => ∃ (x l y : V) (folk k : Int) (hs : List (List Hd)) (lot S : List Int) (ds : List Hd), vs = [x, .int k, l, y] ∧ PartsAt H x folk hs ∧ RowAt H l lot ∧ SeqI K H y S ∧
  0 ≤ k ∧ hs[k.toNat]? = some ds ∧ ds.length ≤ 1000 ∧ ∀ H', Same H H' → Q (.bl (hfOf hs lot k S)) H'
theorem filter_take {α : Type} (p : α → Bool) (l : List α) (i : Nat) (x : α) (h : l[i]? = some x) : (l.take (i + 1)).filter p = if p x = true then (l.take i).filter p ++ [x] else (l.take i).filter p := by
  rw [List.take_add_one, h]
  simp only [Option.toList_some, List.filter_append, List.filter_cons, List.filter_nil]
  split
  · rfl
  · rw [List.append_nil]
theorem ok_law_has_half (T : Txt K mg) (D : Df K mg "_law_has_half" s_law_has_half ["_law_parts_here", "_law_house", "_law_lot_here", "_law_houses"]) : Cal CX0 P w K mg base 1 "_law_has_half" (spLHalf K) := by
  refine D.cal sc_law_has_half (fun vs H Q E h => ?_) (fun f cdv A outer s H vs Q E hr h => ?_)
  · obtain ⟨x, l, y, folk, k, hs, lot, S, ds, rfl, _⟩ := h
    rfl
  · obtain ⟨x, l, y, folk, k, hs, lot, S, ds, rfl, ⟨xa, wv, rfl, hx, wa, ws, rfl, hw, pw⟩, ⟨la, rfl, hl⟩, ⟨ya, rfl, hy⟩, k0, hk, hlen, q⟩ := h
    obtain ⟨hv, hv1, da, dvs, rfl, hda, pd⟩ := paired_at' pw hk
    have nd := sc_law_has_half.nd
    refine ⟨_, pss_cons (ps_set (i := 4) nd rfl (Or.inl rfl) (pe_ix ix_tup (pe_ix ix_tup (pv 0) pe_int (fun _ _ => rfl)) (pv 1) (fun _ _ => rfl)))
      (pss_cons (ps_setLc (i := 5) (own := [("_law_one", 6)]) (g := (gName 6)) rfl nd rfl rfl (sw_true rfl rfl rfl (by decide +kernel)) (pi_tup (pv 4)) (blkOk_by (N := n_law_has_half) (sc := defScope s_law_has_half) (by decide +kernel)) (fun _ _ _ _ _ => (pg_name (i := 6) nd rfl (Or.inl rfl))) (fun _ _ _ _ _ => (pts_one (PW.pt (pw_or (PW.pt (pw_and (pt_cmpR op_eq (pe_ix (ix_tupK K) (pv 6) pe_int (fun _ _ => rfl)) pe_str (nomark _)) (pw_and1 (pt_cmpR (op_inK K) (pe_ix (ix_tupK K) (pv 6) pe_int (fun _ _ => rfl)) (pv 2) (by rfl))))) (pw_or1 (PW.pt (pw_and (pt_cmpR op_eq (pe_ix (ix_tupK K) (pv 6) pe_int (fun _ _ => rfl)) pe_str (nomark _)) (pw_and1 (pt_cmpR (op_inK K) (pe_ix (ix_tupK K) (pv 6) pe_int (fun _ _ => rfl)) (pv 3) (by rfl)))))))))) (fun _ _ _ _ _ => (pv 6)))
      (pss_one (ps_ret (pe_cmpR op_gt (pe_op op_mul pe_int (pe_callB call_len_seq (by rfl) T.len (by decide +kernel) (pa_cons (pv 5) pa_nil))) (pe_callB call_len_seq (by rfl) T.len (by decide +kernel) (pa_cons (pv 4) pa_nil)) (nomark _))))), ?_⟩
    have kn : k = ((k.toNat : Nat) : Int) := (Int.toNat_of_nonneg k0).symm
    -- shares = parts[1][house]
    refine ⟨_, rfl, xa, _, 1, .ref wa, rfl, rfl, SqT.of hx, atI_nat (j := 1) rfl, _, rfl, wa, ws, k, .ref da, rfl, rfl, SqT.of hw, at_of kn hv1, ?_⟩
    -- ours
    have lds : dvs.length = ds.length := pd.length
    refine ⟨_, rfl, da, rfl, ⟨_, SqT.of hda⟩, fun o no => ?_⟩
    have s1 : Same H (upd H o (.lst [])) := same_upd no
    refine lc_tup (K := K) (a := da) (xs := dvs) (fun i H' => ∃ acc, Same H H' ∧ H' o = some (.lst acc) ∧ acc.length = ((ds.take i).filter (Hd.ours lot S)).length) ⟨[], s1, upd_same, by simp⟩ (fun i H' _ ⟨_, sm, _⟩ => SqT.of (sm _ _ hda)) ?_ ?_
    · rintro i z H' hi ⟨acc, sm, ho, hacc⟩
      obtain ⟨d, hd, ⟨ta, rfl, hta⟩⟩ := paired_at pd hi
      have ht : H' ta = some (.tup d.vs) := sm _ _ hta
      have hil : i < dvs.length := (List.getElem?_eq_some_iff.mp hi).1
      have hft := filter_take (Hd.ours lot S) ds i d hd
      have small : acc.length < sizeLine := by
        have h1 := List.length_filter_le (Hd.ours lot S) (ds.take i)
        have h2 := List.length_take_le i ds
        have h3 := sizeBig
        omega
      have hL : SqL K H' la (lot.map V.int) ∨ SqT K H' la (lot.map V.int) := .inr (SqT.of (sm _ _ hl))
      have hS : SqL K H' ya (S.map V.int) ∨ SqT K H' ya (S.map V.int) := by
        rcases hy with hy | hy
        · exact .inl (sm.seq hy)
        · refine .inr ?_
          rcases hy with (hy | ⟨ob, hy⟩) | hy
          · exact .inl (.inl (sm _ _ hy))
          · exact .inl (.inr ⟨ob, sm _ _ hy⟩)
          · exact .inr hy
      have yes : Hd.ours lot S d = true → ∃ acc', H' o = some (.lst acc') ∧ acc'.length < sizeLine ∧ ∃ acc'', Same H (upd H' o (.lst (acc' ++ [.ref ta]))) ∧ (upd H' o (.lst (acc' ++ [.ref ta]))) o = some (.lst acc'') ∧ acc''.length = ((ds.take (i + 1)).filter (Hd.ours lot S)).length := fun e => by
        refine ⟨acc, ho, small, acc ++ [.ref ta], fun b x hb => ?_, upd_same, ?_⟩
        · rw [upd_ne (ne_of_none hb no)]
          exact sm b x hb
        · rw [hft, if_pos e, List.length_append, List.length_append, hacc]
          rfl
      have no' : ¬ Hd.ours lot S d = true → ∃ acc'', Same H H' ∧ H' o = some (.lst acc'') ∧ acc''.length = ((ds.take (i + 1)).filter (Hd.ours lot S)).length := fun e => ⟨acc, sm, ho, by rw [hft, if_neg e]; exact hacc⟩
      refine ⟨rfl, ?_⟩
      cases d with
      | f j =>
        refine ⟨_, rfl, ta, _, 0, .str "f", rfl, rfl, SqT.of ht, atI_nat (j := 0) rfl, rfl, _, rfl, iteT ?_⟩
        refine ⟨_, rfl, ta, _, 1, .int j, rfl, rfl, SqT.of ht, atI_nat (j := 1) rfl, _, rfl, in_ints hL ⟨_, rfl, ?_⟩⟩
        by_cases e : j ∈ lot
        · rw [decide_eq_true e]
          refine iteT (iteT ⟨_, rfl, yes (decide_eq_true e)⟩)
        · rw [decide_eq_false e]
          refine iteF ⟨_, rfl, ta, _, 0, .str "f", rfl, rfl, SqT.of ht, atI_nat (j := 0) rfl, rfl, _, rfl, ?_⟩
          rw [decide_eq_false (by decide +kernel)]
          exact iteF (iteF (no' (by rw [show Hd.ours lot S (.f j) = false from decide_eq_false e]; exact Bool.false_ne_true)))
      | h j =>
        refine ⟨_, rfl, ta, _, 0, .str "h", rfl, rfl, SqT.of ht, atI_nat (j := 0) rfl, rfl, _, rfl, ?_⟩
        rw [decide_eq_false (by decide +kernel)]
        refine iteF (iteF ⟨_, rfl, ta, _, 0, .str "h", rfl, rfl, SqT.of ht, atI_nat (j := 0) rfl, rfl, _, rfl, iteT ?_⟩)
        refine ⟨_, rfl, ta, _, 1, .int j, rfl, rfl, SqT.of ht, atI_nat (j := 1) rfl, _, rfl, in_ints hS ⟨_, rfl, ?_⟩⟩
        by_cases e : j ∈ S
        · rw [decide_eq_true e]
          exact iteT ⟨_, rfl, yes (decide_eq_true e)⟩
        · rw [decide_eq_false e]
          exact iteF (no' (by rw [show Hd.ours lot S (.h j) = false from decide_eq_false e]; exact Bool.false_ne_true))
    · rintro H' ⟨acc, sm, ho, hacc⟩
      rw [lds, List.take_length] at hacc
      refine ⟨_, rfl, o, acc, rfl, .inl (SqL.of ho), 2, _, rfl, rfl, .inl ⟨by decide, by decide⟩, _, rfl, da, dvs, rfl, .inr (SqT.of (sm _ _ hda)), _, _, rfl, rfl, ?_⟩
      have e : hfOf hs lot k S = decide ((dvs.length : Int) < 2 * (acc.length : Int)) := by
        unfold hfOf halfD
        rw [List.getD_eq_getElem?_getD, hk, Option.getD_some, lds, hacc]
        by_cases h : ds.length < 2 * (ds.filter (Hd.ours lot S)).length
        · rw [decide_eq_true h, decide_eq_true (by omega)]
        · rw [decide_eq_false h, decide_eq_false (by omega)]
      have q' := q H' sm
      rw [e] at q'
      exact q'
end
end K23
/-! Drawn things: some, mixed, holders, lots. -/
namespace K23
open PySem PySem.Spec PyProof.Rows L2
/-- a comprehension without a test -/
theorem tyes {σ : L2.St} {H : Hp} {A B : Hp → Prop} (h : A H) : tYes σ H (fun b H3 => if b = true then A H3 else B H3) := by
  show if true = true then A H else B H
  rw [if_pos rfl]
  exact h
theorem PoolAt.lst {H H' : Hp} {p c a : Addr} {o : HO} (P : PoolAt H p c) (h : a ≠ p) (g : a ≠ c) (e : H' = upd H a o) : PoolAt H' p c := by
  obtain ⟨s, n, cs, h1, h2, h3⟩ := P.ex
  subst e
  exact ⟨s, n, cs, by rw [upd_ne h.symm]; exact h1, by rw [upd_ne g.symm]; exact h2, h3⟩
theorem PoolAt.new {H : Hp} {p c a : Addr} {o : HO} (P : PoolAt H p c) (h : H a = none) : PoolAt (upd H a o) p c := P.same (same_upd h)
theorem PoolAt.ne {H : Hp} {p c a : Addr} (P : PoolAt H p c) (h : H a = none) : a ≠ p ∧ a ≠ c := by
  obtain ⟨s, n, cs, h1, h2, h3⟩ := P.ex
  exact ⟨(ne_of_none h1 h).symm, (ne_of_none h2 h).symm⟩
theorem Fr2.new {p c a : Addr} {H : Hp} {o : HO} (h : H a = none) : Fr2 p c H (upd H a o) := Fr2.of (same_upd h)
/-- no list but the pool's is touched, and what is new may be -/
theorem Fr2.written {p c a : Addr} {H H' : Hp} {o : HO} (k : Fr2 p c H H') (h : H a = none) : Fr2 p c H (upd H' a o) := fun b x n1 n2 e => by
  rw [upd_ne (ne_of_none e h)]
  exact k b x n1 n2 e
section
variable {P : Program} {w : World} {K : PySem.W.Frag} {mg : Str → Option Value} {base : Heap}
/-! ### some -/
abbrev n_law_some : List Str := ["_law_pool_here", "_law_things"]
theorem sc_law_some : FnScope n_law_some ["_law_pool_here", "_law_things"] (defScope s_law_some) := ⟨rfl, rfl, rfl, by decide +kernel, rfl, by decide +kernel, by decide +kernel⟩
def spSome : Sp := fun vs H Q _ => ∃ (p c a : Addr) (xs : List V), vs = [.ref p, .ref a] ∧ PoolAt H p c ∧ H a = some (.lst xs) ∧ a ≠ p ∧ a ≠ c ∧ xs ≠ [] ∧ xs.length ≤ 1000 ∧
  ∀ (j : Nat) (x : V) (H' : Hp), xs[j]? = some x → Fr2 p c H H' → PoolAt H' p c → Q x H'
theorem ok_law_some (T : Txt K mg) (c_law_draw : Cal CX0 P w K mg base 1 "_law_draw" spDraw) (D : Df K mg "_law_some" s_law_some ["_law_pool_here", "_law_things"]) : Cal CX0 P w K mg base 2 "_law_some" spSome := by
  refine D.cal sc_law_some (fun vs H Q E h => ?_) (fun f cdv A outer s H vs Q E hr h => ?_)
  · obtain ⟨p, c, a, xs, rfl, _⟩ := h
    rfl
  · obtain ⟨p, c, a, xs, rfl, hP, ha, n1, n2, hne, hlen, q⟩ := h
    have nd := sc_law_some.nd
    refine ⟨_, pss_one (ps_ret (pe_ix ix_list (pv 1) (pe_cal c_law_draw hr (by decide) (by rfl) (pa_cons (pv 0) (pa_cons (pe_callB call_len_seq (by rfl) T.len (by decide +kernel) (pa_cons (pv 1) pa_nil)) pa_nil))) (fun _ _ => rfl))), ?_⟩
    have pos : 0 < xs.length := List.length_pos_iff.mpr hne
    refine ⟨_, rfl, _, rfl, .ref a, rfl, a, xs, rfl, .inl (SqL.of ha), p, c, _, rfl, hP, by omega, by omega, fun d H' d0 d1 fr hP' => ?_⟩
    have dn : d = ((d.toNat : Nat) : Int) := (Int.toNat_of_nonneg d0).symm
    have hlt : d.toNat < xs.length := by omega
    have hg : xs[d.toNat]? = some xs[d.toNat] := List.getElem?_eq_getElem hlt
    exact ⟨a, xs, d, _, rfl, rfl, SqL.of (fr a _ n1 n2 ha), at_of dn hg, q _ _ _ hg fr hP'⟩
/-! ### mixed -/
abbrev n_law_mixed : List Str := ["_law_pool_here", "_law_things", "_law_left", "_law_k"]
theorem sc_law_mixed : FnScope n_law_mixed ["_law_pool_here", "_law_things"] (defScope s_law_mixed) := ⟨rfl, rfl, rfl, by decide +kernel, rfl, by decide +kernel, by decide +kernel⟩
def spMixed : Sp := fun vs H Q _ => ∃ (p c a : Addr) (xs : List V), vs = [.ref p, .ref a] ∧ PoolAt H p c ∧ H a = some (.lst xs) ∧ a ≠ p ∧ a ≠ c ∧ xs.length ≤ 1000 ∧
  ∀ (D : Addr) (ys : List V) (H' : Hp), H D = none → H' D = some (.lst ys) → ys.Perm xs → Fr2 p c H H' → PoolAt H' p c → Q (.ref D) H'
theorem perm_erase {α : Type} {ys r xs : List α} {j : Nat} {y : α} (h : (ys ++ r).Perm xs) (hj : r[j]? = some y) : ((ys ++ [y]) ++ r.eraseIdx j).Perm xs := by
  have hl : j < r.length := (List.getElem?_eq_some_iff.mp hj).1
  have e : r.Perm (y :: r.eraseIdx j) := by
    have h1 : r = r.take j ++ y :: r.drop (j + 1) := by
      rw [← (List.getElem?_eq_some_iff.mp hj).2, List.getElem_cons_drop, List.take_append_drop]
    have h2 : r.eraseIdx j = r.take j ++ r.drop (j + 1) := List.eraseIdx_eq_take_drop_succ r j
    rw [h2]
    conv => lhs; rw [h1]
    exact List.perm_middle
  rw [List.append_assoc]
  exact (List.Perm.append_left ys (show ([y] ++ r.eraseIdx j).Perm r from e.symm)).trans h
theorem ok_law_mixed (T : Txt K mg) (c_law_draw : Cal CX0 P w K mg base 1 "_law_draw" spDraw) (D : Df K mg "_law_mixed" s_law_mixed ["_law_pool_here", "_law_things"]) : Cal CX0 P w K mg base 2 "_law_mixed" spMixed := by
  refine D.cal sc_law_mixed (fun vs H Q E h => ?_) (fun f cdv A outer s H vs Q E hr h => ?_)
  · obtain ⟨p, c, a, xs, rfl, _⟩ := h
    rfl
  · obtain ⟨p, c, a, xs, rfl, hP, ha, n1, n2, hlen, q⟩ := h
    have nd := sc_law_mixed.nd
    refine ⟨_, pss_cons (ps_set (i := 2) nd rfl (Or.inr rfl) (pe_callTy call_list_of (by rfl) T.list (by decide +kernel) (pa_cons (pv 1) pa_nil)))
      (pss_one (ps_ret (pe_lc (own := [("_law_k", 3)]) (g := (gName 3)) (tt := tYes) rfl nd (pi_range1 (by rfl) T.range (pa_cons (pe_callB call_len_seq (by rfl) T.len (by decide +kernel) (pa_cons (pv 1) pa_nil)) pa_nil)) (blkOk_by (N := n_law_mixed) (sc := defScope s_law_mixed) (by decide +kernel)) (fun _ _ _ _ _ => (pg_name (i := 3) nd rfl (Or.inl rfl))) (fun _ _ _ _ _ => pts_nil) (fun _ _ _ _ _ => (pe_bmK K PySem.F.plainAttrs_list PySem.F.slot_list_pop PySem.F.type_list_pop mt_popAt (pv 2) (pa_cons (pe_cal c_law_draw hr (by decide) (by rfl) (pa_cons (pv 0) (pa_cons (pe_callB (call_lenK K) (by rfl) T.len (by decide +kernel) (pa_cons (pv 2) pa_nil)) pa_nil))) pa_nil)))))), ?_⟩
    -- left = list(things)
    refine ⟨_, rfl, a, xs, rfl, .inl (SqL.of ha), fun l nl => ?_⟩
    have hP1 : PoolAt (upd H l (.lst xs)) p c := hP.new nl
    have al : a ≠ l := ne_of_none ha nl
    refine ⟨_, rfl, a, xs, rfl, .inl (SqL.of (by rw [upd_ne al]; exact ha)), _, rfl, by omega, by omega, fun o no => ?_⟩
    have no0 : H o = none := by
      by_cases e : o = l
      · rw [e, upd_same] at no
        cases no
      · rw [upd_ne e] at no
        exact no
    have lo : l ≠ o := fun e => by
      rw [← e, upd_same] at no
      cases no
    obtain ⟨lp, lc⟩ := hP.ne nl
    obtain ⟨op, oc⟩ := hP.ne no0
    refine lc_range (lo := 0) (n := (xs.length : Int).toNat) (fun i H' => ∃ ys r, H' l = some (.lst r) ∧ H' o = some (.lst ys) ∧ (ys ++ r).Perm xs ∧ ys.length = i ∧ r.length + i = xs.length ∧ Fr2 p c H H' ∧ PoolAt H' p c) ?_ ?_ ?_
    · refine ⟨[], xs, by rw [upd_ne lo, upd_same], upd_same, .refl _, rfl, rfl, (Fr2.new nl).written no0, (hP1.new no)⟩
    · rintro i H' hi ⟨ys, r, hl, ho, hp, e1, e2, fr, hP'⟩
      rw [Int.toNat_natCast] at hi
      refine ⟨rfl, tyes ?_⟩
      refine ⟨_, rfl, .inl ⟨rfl, _, SqL.of hl⟩, _, rfl, _, rfl, l, r, rfl, .inl (SqL.of hl), p, c, _, rfl, hP', by omega, by omega, fun d H2 d0 d1 fr2 hP2 => ?_⟩
      have dn : d = ((d.toNat : Nat) : Int) := (Int.toNat_of_nonneg d0).symm
      have hlt : d.toNat < r.length := by omega
      have hg : r[d.toNat]? = some r[d.toNat] := List.getElem?_eq_getElem hlt
      have hl2 := fr2 l _ lp lc hl
      have ho2 := fr2 o _ op oc ho
      refine ⟨l, r, d, d.toNat, r[d.toNat], rfl, rfl, hl2, by omega, by omega, seqIndex_of d0 d1, hg, ys, by rw [upd_ne lo.symm]; exact ho2, ?_, ys ++ [r[d.toNat]], r.eraseIdx d.toNat, by rw [upd_ne lo, upd_same], upd_same, perm_erase hp hg, ?_, ?_, ?_, ?_⟩
      · have := sizeBig
        omega
      · rw [List.length_append, List.length_singleton, e1]
      · rw [List.length_eraseIdx, if_pos hlt]
        omega
      · exact ((fr.trans fr2).written nl).written no0
      · exact (hP2.lst lp lc rfl).lst op oc rfl
    · rintro H' ⟨ys, r, hl, ho, hp, e1, e2, fr, hP'⟩
      rw [Int.toNat_natCast] at e1 e2
      have r0 : r = [] := List.length_eq_zero_iff.mp (by omega)
      rw [r0, List.append_nil] at hp
      exact q o ys H' no0 ho hp fr hP'
/-! ### a holder -/
abbrev n_law_holder : List Str := ["_law_pool_here", "_law_folk", "_law_houses", "_law_lean"]
theorem sc_law_holder : FnScope n_law_holder ["_law_pool_here", "_law_folk", "_law_houses", "_law_lean"] (defScope s_law_holder) := ⟨rfl, rfl, rfl, by decide +kernel, rfl, by decide +kernel, by decide +kernel⟩
/-- a right holder among so many folk and houses -/
def Hd.ok (folk houses : Int) : Hd → Prop
  | .f k => 0 ≤ k ∧ k < folk
  | .h k => 0 ≤ k ∧ k < houses
def spHolder : Sp := fun vs H Q _ => ∃ (p c : Addr) (folk houses lean : Int), vs = [.ref p, .int folk, .int houses, .int lean] ∧ PoolAt H p c ∧ 1 ≤ folk ∧ folk ≤ 1000 ∧ 0 ≤ houses ∧ houses ≤ 1000 ∧
  ∀ (x : V) (d : Hd) (H' : Hp), HdAt H' x d → d.ok folk houses → Fr2 p c H H' → PoolAt H' p c → Q x H'
theorem ok_law_holder (T : Txt K mg) (c_law_draw : Cal CX0 P w K mg base 1 "_law_draw" spDraw) (D : Df K mg "_law_holder" s_law_holder ["_law_pool_here", "_law_folk", "_law_houses", "_law_lean"]) : Cal CX0 P w K mg base 2 "_law_holder" spHolder := by
  refine D.cal sc_law_holder (fun vs H Q E h => ?_) (fun f cdv A outer s H vs Q E hr h => ?_)
  · obtain ⟨p, c, folk, houses, lean, rfl, _⟩ := h
    rfl
  · obtain ⟨p, c, folk, houses, lean, rfl, hP, f0, f1, h0, h1, q⟩ := h
    have nd := sc_law_holder.nd
    refine ⟨_, pss_cons (ps_if (PW.pt (pw_or (pt_cmpR op_eq (pv 2) pe_int (nomark _)) (pw_or1 (pt_cmpR op_lt (pe_cal c_law_draw hr (by decide) (by rfl) (pa_cons (pv 0) (pa_cons pe_int pa_nil))) (pv 3) (nomark _))))) (pss_one (ps_ret (pe_tup (pa_cons pe_str (pa_cons (pe_cal c_law_draw hr (by decide) (by rfl) (pa_cons (pv 0) (pa_cons (pv 1) pa_nil))) pa_nil))))) pss_nil)
      (pss_one (ps_ret (pe_tup (pa_cons pe_str (pa_cons (pe_cal c_law_draw hr (by decide) (by rfl) (pa_cons (pv 0) (pa_cons (pv 2) pa_nil))) pa_nil))))), ?_⟩
    have two : (2 : Nat) ≤ sizeLine := by decide
    have fin1 : ∀ H1, Fr2 p c H H1 → PoolAt H1 p c → ∀ (d : Int) (H' : Hp), 0 ≤ d → d < folk → Fr2 p c H1 H' → PoolAt H' p c → ∀ t, H' t = none → Q (.ref t) (upd H' t (.tup [.str "f", .int d])) := fun H1 fr hP1 d H' d0 d1 fr' hP' t nt =>
      q _ (.f d) _ ⟨t, rfl, upd_same⟩ ⟨d0, d1⟩ ((fr.trans fr').trans (Fr2.new nt)) (hP'.new nt)
    by_cases e : houses = 0
    · refine ⟨_, rfl, rfl, _, rfl, ?_⟩
      rw [decide_eq_true (by rw [e])]
      refine iteT (iteT ⟨_, rfl, _, rfl, p, c, folk, rfl, hP, by omega, by omega, fun d H' d0 d1 fr hP' => ⟨two, fun t nt => ?_⟩⟩)
      exact fin1 H (Fr2.refl p c H) hP d H' d0 d1 fr hP' t nt
    · refine ⟨_, rfl, rfl, _, rfl, ?_⟩
      rw [decide_eq_false (fun z => e (V.int.inj z))]
      refine iteF ⟨_, rfl, p, c, 6, rfl, hP, by omega, by omega, fun d H1 d0 d1 fr1 hP1 => ⟨_, rfl, d, lean, rfl, rfl, _, rfl, ite2 (fun e => ?_) (fun e => ?_)⟩⟩
      · refine ⟨_, rfl, _, rfl, p, c, folk, rfl, hP1, by omega, by omega, fun d H' d0 d1 fr hP' => ⟨two, fun t nt => ?_⟩⟩
        exact fin1 H1 fr1 hP1 d H' d0 d1 fr hP' t nt
      · refine ⟨_, rfl, _, rfl, p, c, houses, rfl, hP1, by omega, by omega, fun d H' d0 d1 fr hP' => ⟨two, fun t nt => ?_⟩⟩
        exact q _ (.h d) _ ⟨t, rfl, upd_same⟩ ⟨d0, d1⟩ ((fr1.trans fr).trans (Fr2.new nt)) (hP'.new nt)
/-! ### a lot -/
abbrev n_law_lot : List Str := ["_law_pool_here", "_law_folk", "_law_person"]
theorem sc_law_lot : FnScope n_law_lot ["_law_pool_here", "_law_folk"] (defScope s_law_lot) := ⟨rfl, rfl, rfl, by decide +kernel, rfl, by decide +kernel, by decide +kernel⟩
/-- a lot: some of the folk, ascending -/
structure LotOk (folk : Int) (lot : List Int) : Prop where
  asc : lot.Pairwise (· < ·)
  bnd : ∀ k ∈ lot, 0 ≤ k ∧ k < folk
def spLot : Sp := fun vs H Q _ => ∃ (p c : Addr) (folk : Int), vs = [.ref p, .int folk] ∧ PoolAt H p c ∧ 0 ≤ folk ∧ folk ≤ 1000 ∧
  ∀ (x : V) (lot : List Int) (H' : Hp), RowAt H' x lot → LotOk folk lot → Fr2 p c H H' → PoolAt H' p c → Q x H'
theorem ok_law_lot (T : Txt K mg) (c_law_draw : Cal CX0 P w K mg base 1 "_law_draw" spDraw) (D : Df K mg "_law_lot" s_law_lot ["_law_pool_here", "_law_folk"]) : Cal CX0 P w K mg base 2 "_law_lot" spLot := by
  refine D.cal sc_law_lot (fun vs H Q E h => ?_) (fun f cdv A outer s H vs Q E hr h => ?_)
  · obtain ⟨p, c, folk, rfl, _⟩ := h
    rfl
  · obtain ⟨p, c, folk, rfl, hP, f0, f1, q⟩ := h
    have nd := sc_law_lot.nd
    refine ⟨_, pss_one (ps_ret (pe_callTy call_tuple_of (by rfl) T.tuple (by decide +kernel) (pa_cons (pe_lc (own := [("_law_person", 2)]) (g := (gName 2)) rfl nd (pi_range1 (by rfl) T.range (pa_cons (pv 1) pa_nil)) (blkOk_by (N := n_law_lot) (sc := defScope s_law_lot) (by decide +kernel)) (fun _ _ _ _ _ => (pg_name (i := 2) nd rfl (Or.inl rfl))) (fun _ _ _ _ _ => (pts_one (pt_cmpR op_eq (pe_cal c_law_draw hr (by decide) (by rfl) (pa_cons (pv 0) (pa_cons pe_int pa_nil))) pe_int (nomark _)))) (fun _ _ _ _ _ => (pv 2))) pa_nil))), ?_⟩
    refine ⟨_, rfl, _, rfl, by omega, by omega, fun o no => ?_⟩
    obtain ⟨op, oc⟩ := hP.ne no
    refine lc_range (lo := 0) (n := folk.toNat) (fun i H' => ∃ ns : List Int, H' o = some (.lst (ns.map V.int)) ∧ ns.Pairwise (· < ·) ∧ (∀ k ∈ ns, 0 ≤ k ∧ k < i) ∧ ns.length ≤ i ∧ Fr2 p c H H' ∧ PoolAt H' p c) ?_ ?_ ?_
    · exact ⟨[], upd_same, .nil, (fun _ h => nomatch h), Nat.le_refl _, Fr2.new no, hP.new no⟩
    · rintro i H' hi ⟨ns, ho, asc, bnd, len, fr, hP'⟩
      refine ⟨rfl, ?_⟩
      refine ⟨_, rfl, p, c, 2, rfl, hP', by omega, by omega, fun d H2 d0 d1 fr2 hP2 => ⟨rfl, _, rfl, ?_⟩⟩
      have ho2 := fr2 o _ op oc ho
      refine ite2 (fun e => ?_) (fun e => ?_)
      · refine ⟨_, rfl, _, ho2, ?_, ns ++ [(i : Int)], ?_, ?_, ?_, ?_, ?_, ?_⟩
        · have := sizeBig
          rw [List.length_map]
          omega
        · rw [upd_same, List.map_append, Int.zero_add]
          rfl
        · rw [List.pairwise_append]
          refine ⟨asc, List.pairwise_singleton _ _, fun x hx y hy => ?_⟩
          rw [List.mem_singleton.mp hy]
          exact (bnd x hx).2
        · intro k hk
          rcases List.mem_append.mp hk with hk | hk
          · have := bnd k hk
            omega
          · rw [List.mem_singleton.mp hk]
            omega
        · rw [List.length_append, List.length_singleton]
          omega
        · exact (fr.trans fr2).written no
        · exact hP2.lst op oc rfl
      · refine ⟨ns, ho2, asc, fun k hk => ?_, by omega, fr.trans fr2, hP2⟩
        have := bnd k hk
        omega
    · rintro H' ⟨ns, ho, asc, bnd, len, fr, hP'⟩
      refine ⟨o, _, rfl, .inl ⟨SqL.of ho, fun l nl => ?_⟩⟩
      refine q _ ns _ ⟨l, rfl, upd_same⟩ ⟨asc, fun k hk => ?_⟩ (fr.trans (Fr2.new nl)) (hP'.new nl)
      have := bnd k hk
      omega
end
end K23
/-! Drawn parts. -/
namespace K23
open PySem PySem.Spec PyProof.Rows L2
/-- a right house: an odd number of right holders, in order -/
structure HouseOk (folk n : Int) (ds : List Hd) : Prop where
  odd : ds.length % 2 = 1
  len : ds.length ≤ 15
  ok : ∀ d ∈ ds, d.ok folk n
  asc : ds.Pairwise (fun a b => Hd.le a b = true)
structure WebOk (folk : Int) (hs : List (List Hd)) : Prop where
  f0 : 1 ≤ folk
  f1 : folk ≤ 6
  n1 : hs.length ≤ 12
  ok : ∀ ds ∈ hs, HouseOk folk hs.length ds
theorem Hd.ok.mono {f n m : Int} {d : Hd} (h : d.ok f n) (l : n ≤ m) : d.ok f m := by
  cases d with
  | f k => exact h
  | h k => exact ⟨h.1, Int.lt_of_lt_of_le h.2 l⟩
theorem at_ints {ns : List Int} {k : Int} (h0 : 0 ≤ k) (h1 : k < ns.length) : ∃ m ∈ ns, atI (ns.map V.int) k = some (.int m) := by
  have kn : k = ((k.toNat : Nat) : Int) := (Int.toNat_of_nonneg h0).symm
  have hl : k.toNat < ns.length := by omega
  refine ⟨ns[k.toNat], List.getElem_mem hl, at_of kn ?_⟩
  rw [List.getElem?_map, List.getElem?_eq_getElem hl]
  rfl
theorem paired_mem {α β : Type} {R : α → β → Prop} {xs : List α} {ys : List β} (p : Paired R xs ys) {j : Nat} (h : j < xs.length) : ∃ x y, xs[j]? = some x ∧ ys[j]? = some y ∧ y ∈ ys ∧ R x y := by
  obtain ⟨y, hy, r⟩ := paired_at p (List.getElem?_eq_getElem h)
  exact ⟨_, y, List.getElem?_eq_getElem h, hy, List.mem_of_getElem? hy, r⟩
theorem Fr2.fresh {p c a : Addr} {H H' : Hp} (k : Fr2 p c H H') (P : PoolAt H' p c) (h : H' a = none) : H a = none := by
  cases e : H a with
  | none => rfl
  | some o =>
    obtain ⟨n1, n2⟩ := P.ne h
    rw [k a o n1 n2 e] at h
    cases h
theorem TS.written {a : Addr} {H H' : Hp} {o : HO} (k : TS H H') (h : H a = none) : TS H (L2.upd H' a o) := fun b xs e => by
  rw [upd_ne (ne_of_none e h)]
  exact k b xs e
section
variable {P : Program} {w : World} {K : PySem.W.Frag} {mg : Str → Option Value} {base : Heap}
/-! ### parts -/
abbrev n_law_parts : List Str := ["_law_pool_here", "_law_least", "_law_kind", "_law_folk", "_law_houses", "_law_lean", "_law_found", "_law_house", "_law_many", "_law_ahead", "_law_shares", "_law_k"]
theorem sc_law_parts : FnScope n_law_parts ["_law_pool_here", "_law_least"] (defScope s_law_parts) := ⟨rfl, rfl, rfl, by decide +kernel, rfl, by decide +kernel, by decide +kernel⟩
def spParts : Sp := fun vs H Q _ => ∃ (p c : Addr), vs = [.ref p, .int 1] ∧ PoolAt H p c ∧
  ∀ (x : V) (folk : Int) (hs : List (List Hd)) (H' : Hp), PartsAt H' x folk hs → WebOk folk hs → 1 ≤ hs.length → Fr2 p c H H' → PoolAt H' p c → Q x H'
theorem ok_law_parts (T : Txt K mg) (c_law_draw : Cal CX0 P w K mg base 1 "_law_draw" spDraw) (c_law_holder : Cal CX0 P w K mg base 2 "_law_holder" spHolder) (D : Df K mg "_law_parts" s_law_parts ["_law_pool_here", "_law_least"]) :
    Cal CX0 P w K mg base 3 "_law_parts" spParts := by
  refine D.cal sc_law_parts (fun vs H Q E h => ?_) (fun f cdv A outer s H vs Q E hr h => ?_)
  · obtain ⟨p, c, rfl, _⟩ := h
    rfl
  · obtain ⟨p, c, rfl, hP, q⟩ := h
    have hu6 := hu60 hr
    have nd := sc_law_parts.nd
    refine ⟨_, pss_cons (ps_set (i := 2) nd rfl (Or.inl rfl) (pe_cal c_law_draw hr (by decide) (by rfl) (pa_cons (pv 0) (pa_cons pe_int pa_nil))))
      (pss_cons (ps_set (i := 3) nd rfl (Or.inr rfl) (pe_op op_add pe_int (pe_cal c_law_draw hr (by decide) (by rfl) (pa_cons (pv 0) (pa_cons pe_int pa_nil)))))
      (C8.pss_cut (ps_if (pt_cmpR op_eq (pe_cal c_law_draw hr (by decide) (by rfl) (pa_cons (pv 0) (pa_cons pe_int pa_nil))) pe_int (nomark _)) (pss_one (ps_set (i := 3) nd rfl (Or.inr rfl) (pe_op op_add pe_int (pe_cal c_law_draw hr (by decide) (by rfl) (pa_cons (pv 0) (pa_cons pe_int pa_nil)))))) pss_nil)
      (pss_cons (ps_set (i := 4) nd rfl (Or.inl rfl) (pe_op op_add (pv 1) (pe_cal c_law_draw hr (by decide) (by rfl) (pa_cons (pv 0) (pa_cons pe_int pa_nil)))))
      (C8.pss_cut (ps_if (pt_cmpR op_eq (pe_cal c_law_draw hr (by decide) (by rfl) (pa_cons (pv 0) (pa_cons pe_int pa_nil))) pe_int (nomark _)) (pss_one (ps_set (i := 4) nd rfl (Or.inl rfl) (pe_op op_add pe_int (pe_cal c_law_draw hr (by decide) (by rfl) (pa_cons (pv 0) (pa_cons pe_int pa_nil)))))) pss_nil)
      (pss_cons (ps_set (i := 5) nd rfl (Or.inr rfl) (pe_ix ix_list (pe_lst (pa_cons pe_int (pa_cons pe_int (pa_cons pe_int (pa_cons pe_int (pa_cons pe_int pa_nil)))))) (pv 2) (fun _ _ => rfl)))
      (pss_cons (ps_set (i := 6) nd rfl (Or.inl rfl) (pe_lst pa_nil))
      (pss_cons (ps_for PassesOwn.never rfl (pi_range1 (by rfl) T.range (pa_cons (pv 4) pa_nil)) (pg_name (i := 7) nd rfl (Or.inl rfl))
        (pss_cons (ps_set (i := 8) nd rfl (Or.inl rfl) (pe_ix ix_list (pe_lst (pa_cons pe_int (pa_cons pe_int (pa_cons pe_int (pa_cons pe_int (pa_cons pe_int pa_nil)))))) (pe_cal c_law_draw hr (by decide) (by rfl) (pa_cons (pv 0) (pa_cons pe_int pa_nil))) (fun _ _ => rfl)))
        (C8.pss_cut (ps_if (PW.pt (pw_and (pt_cmpR op_eq (pv 2) pe_int (nomark _)) (pw_and1 (pt_cmpR op_eq (pe_cal c_law_draw hr (by decide) (by rfl) (pa_cons (pv 0) (pa_cons pe_int pa_nil))) pe_int (nomark _))))) (pss_one (ps_set (i := 8) nd rfl (Or.inl rfl) (pe_ix ix_list (pe_lst (pa_cons pe_int (pa_cons pe_int (pa_cons pe_int pa_nil)))) (pe_cal c_law_draw hr (by decide) (by rfl) (pa_cons (pv 0) (pa_cons pe_int pa_nil))) (fun _ _ => rfl)))) pss_nil)
        (pss_cons (ps_set (i := 9) nd rfl (Or.inr rfl) (pv 4))
        (C8.pss_cut (ps_if (pt_cmpR op_eq (pv 2) pe_int (nomark _)) (pss_one (ps_set (i := 9) nd rfl (Or.inr rfl) (pv 7))) pss_nil)
        (pss_cons (ps_set (i := 10) nd rfl (Or.inr rfl) (pe_lc (own := [("_law_k", 11)]) (g := (gName 11)) (tt := tYes) rfl nd (pi_range1 (by rfl) T.range (pa_cons (pv 8) pa_nil)) (blkOk_by (N := n_law_parts) (sc := defScope s_law_parts) (by decide +kernel)) (fun _ _ _ _ _ => (pg_name (i := 11) nd rfl (Or.inl rfl))) (fun _ _ _ _ _ => pts_nil) (fun _ _ _ _ _ => (pe_cal c_law_holder hr (by decide) (by rfl) (pa_cons (pv 0) (pa_cons (pv 3) (pa_cons (pv 9) (pa_cons (pv 5) pa_nil))))))))
        (C8.pss_cut (ps_if (pt_cmpR op_eq (pv 2) pe_int (nomark _)) (pss_one (ps_set (i := 10) nd rfl (Or.inr rfl) (pe_op op_cat (pe_lc (own := [("_law_k", 11)]) (g := (gName 11)) (tt := tYes) rfl nd (pi_range1 (by rfl) T.range (pa_cons (pe_op op_sub (pv 8) pe_int) pa_nil)) (blkOk_by (N := n_law_parts) (sc := defScope s_law_parts) (by decide +kernel)) (fun _ _ _ _ _ => (pg_name (i := 11) nd rfl (Or.inl rfl))) (fun _ _ _ _ _ => pts_nil) (fun _ _ _ _ _ => (pe_ix (ix_listK K) (pv 10) (pe_op op_mod (pe_callTy call_int1 (by rfl) T.int (by decide +kernel) (pa_cons (pv 11) pa_nil)) pe_int) (fun _ _ => rfl)))) (pe_lst (pa_cons (pe_ix ix_list (pv 10) (pe_un un_neg pe_int) (fun _ _ => rfl)) pa_nil))))) pss_nil)
        (pss_one (ps_expr (pe_bm PySem.F.plainAttrs_list PySem.F.slot_list_append PySem.F.type_list_append mt_append (pv 6) (pa_cons (pe_callTy call_tuple_of (by rfl) T.tuple (by decide +kernel) (pa_cons (pe_callB (cr_sortH hu6) (by rfl) T.sorted (by decide +kernel) (pa_cons (pv 10) pa_nil)) pa_nil)) pa_nil)))))))))))
      (pss_one (ps_ret (pe_tup (pa_cons (pv 3) (pa_cons (pe_callTy call_tuple_of (by rfl) T.tuple (by decide +kernel) (pa_cons (pv 6) pa_nil)) pa_nil)))))))))))), ?_⟩
    refine ⟨_, rfl, p, c, 5, rfl, hP, by omega, by omega, fun kind H1 k0 k1 fr1 hP1 => ?_⟩
    refine ⟨_, rfl, p, c, 4, rfl, hP1, by omega, by omega, fun f1 H2 f10 f11 fr2 hP2 => ⟨1, f1, rfl, rfl, ?_⟩⟩
    have fr02 := fr1.trans fr2
    clear fr1 fr2 hP1
    -- if draw(6) == 0
    refine ⟨fun σ' H' => ∃ f, σ' = [some (.ref p), some (.int 1), some (.int kind), some (.int f), none, none, none, none, none, none, none, none] ∧ 1 ≤ f ∧ f ≤ 6 ∧ Fr2 p c H H' ∧ PoolAt H' p c, ?_, ?_⟩
    · refine ⟨_, rfl, p, c, 6, rfl, hP2, by omega, by omega, fun d H3 d0 d1 fr3 hP3 => ⟨rfl, _, rfl, ite2 (fun e => ?_) (fun e => ?_)⟩⟩
      · refine ⟨_, rfl, p, c, 2, rfl, hP3, by omega, by omega, fun f2 H4 f20 f21 fr4 hP4 => ⟨5, f2, rfl, rfl, 5 + f2, rfl, by omega, by omega, (fr02.trans fr3).trans fr4, hP4⟩⟩
      · exact ⟨1 + f1, rfl, by omega, by omega, fr02.trans fr3, hP3⟩
    rintro σ' H' ⟨f, rfl, f0, f6, fr, hP'⟩
    clear fr02 hP2
    refine ⟨_, rfl, _, rfl, p, c, 6, rfl, hP', by omega, by omega, fun n1 H5 n10 n11 fr5 hP5 => ⟨1, n1, rfl, rfl, ?_⟩⟩
    refine ⟨fun σ' H' => ∃ n : Int, σ' = [some (.ref p), some (.int 1), some (.int kind), some (.int f), some (.int n), none, none, none, none, none, none, none] ∧ 1 ≤ n ∧ n ≤ 12 ∧ Fr2 p c H H' ∧ PoolAt H' p c, ?_, ?_⟩
    · refine ⟨_, rfl, p, c, 8, rfl, hP5, by omega, by omega, fun d H3 d0 d1 fr3 hP3 => ⟨rfl, _, rfl, ite2 (fun e => ?_) (fun e => ?_)⟩⟩
      · refine ⟨_, rfl, p, c, 5, rfl, hP3, by omega, by omega, fun f2 H4 f20 f21 fr4 hP4 => ⟨8, f2, rfl, rfl, 8 + f2, rfl, by omega, by omega, ((fr.trans fr5).trans fr3).trans fr4, hP4⟩⟩
      · exact ⟨1 + n1, rfl, by omega, by omega, (fr.trans fr5).trans fr3, hP3⟩
    clear fr hP' fr5 hP5
    rintro σ' H' ⟨n, rfl, n0, n12, fr, hP'⟩
    -- lean
    refine ⟨by decide, fun l nl => ?_⟩
    obtain ⟨lean, hlean, elean⟩ := at_ints (ns := [3, 3, 1, 4, 3]) k0 (by simpa using k1)
    refine ⟨_, rfl, l, [3, 3, 1, 4, 3].map V.int, kind, .int lean, rfl, rfl, SqL.of upd_same, elean, ?_⟩
    -- found = []
    have frl := fr.trans (Fr2.new (p := p) (c := c) (o := .lst ([3, 3, 1, 4, 3].map V.int)) nl)
    have hPl := hP'.new (o := .lst ([3, 3, 1, 4, 3].map V.int)) nl
    refine ⟨by decide, fun F nF => ?_⟩
    have nF0 : H F = none := frl.fresh hPl nF
    obtain ⟨Fp, Fc⟩ := hPl.ne nF
    have frF := frl.trans (Fr2.new (p := p) (c := c) (o := .lst []) nF)
    have hPF := hPl.new (o := .lst []) nF
    have gF : upd (upd H' l (.lst ([3, 3, 1, 4, 3].map V.int))) F (.lst []) F = some (.lst []) := upd_same
    have eF : upd (upd H' l (.lst (List.map V.int [3, 3, 1, 4, 3]))) F (.lst []) = upd (upd H' l (.lst [.int 3, .int 3, .int 1, .int 4, .int 3])) F (.lst []) := rfl
    rw [eF] at frF hPF gF
    generalize upd (upd H' l (.lst [.int 3, .int 3, .int 1, .int 4, .int 3])) F (.lst []) = H0 at frF hPF gF ⊢
    -- the houses
    refine ⟨_, rfl, _, rfl, by omega, by omega, for_range (lo := 0) (n := n.toNat) (fun i σ H1 => ∃ o7 o8 o9 o10 xs hs, σ = [some (.ref p), some (.int 1), some (.int kind), some (.int f), some (.int n), some (.int lean), some (.ref F), o7, o8, o9, o10, none] ∧
      H1 F = some (.lst xs) ∧ Paired (HsAt H1) xs hs ∧ hs.length = i ∧ (∀ ds ∈ hs, HouseOk f n ds) ∧ Fr2 p c H H1 ∧ PoolAt H1 p c) ?_ ?_ ?_⟩
    · exact ⟨_, _, _, _, _, _, rfl, gF, .nil, rfl, (fun _ h => nomatch h), frF, hPF⟩
    · rintro i σ H1 hi ⟨o7, o8, o9, o10, xs, hs, rfl, hF, pr, hl, hok, fr1, hP1⟩
      clear frF hPF gF frl hPl
      -- many = [1, 3, 3, 3, 5][draw(5)]
      refine ⟨by decide, fun l2 nl2 => ?_⟩
      have hP2 := hP1.new (o := .lst ([1, 3, 3, 3, 5].map V.int)) nl2
      refine ⟨_, rfl, p, c, 5, rfl, hP2, by omega, by omega, fun m1 H3 m10 m11 fr3 hP3 => ?_⟩
      obtain ⟨many, hmany, emany⟩ := at_ints (ns := [1, 3, 3, 3, 5]) m10 (by simpa using m11)
      obtain ⟨l2p, l2c⟩ := hP1.ne nl2
      refine ⟨l2, [1, 3, 3, 3, 5].map V.int, m1, .int many, rfl, rfl, SqL.of (fr3 l2 _ l2p l2c upd_same), emany, ?_⟩
      have fr13 : Fr2 p c H1 H3 := (Fr2.new nl2).trans fr3
      clear fr3 hP2
      -- if kind == 4 and draw(3) == 0
      refine ⟨fun σ' H' => ∃ m : Int, σ' = [some (.ref p), some (.int 1), some (.int kind), some (.int f), some (.int n), some (.int lean), some (.ref F), some (.int (0 + i)), some (.int m), o9, o10, none] ∧ 1 ≤ m ∧ m ≤ 15 ∧ m % 2 = 1 ∧ Fr2 p c H1 H' ∧ PoolAt H' p c, ?_, ?_⟩
      · refine ⟨_, rfl, rfl, _, rfl, ?_⟩
        have skip : ∀ H4 : Hp, Fr2 p c H3 H4 → PoolAt H4 p c → ∃ m : Int, [some (V.ref p), some (.int 1), some (.int kind), some (.int f), some (.int n), some (.int lean), some (.ref F), some (.int (0 + i)), some (.int many), o9, o10, none] = [some (.ref p), some (.int 1), some (.int kind), some (.int f), some (.int n), some (.int lean), some (.ref F), some (.int (0 + i)), some (.int m), o9, o10, none] ∧ 1 ≤ m ∧ m ≤ 15 ∧ m % 2 = 1 ∧ Fr2 p c H1 H4 ∧ PoolAt H4 p c := fun H4 fr4 hP4 => by
          refine ⟨many, rfl, ?_, ?_, ?_, fr13.trans fr4, hP4⟩ <;>
          · simp at hmany
            omega
        by_cases e : kind = 4
        · rw [decide_eq_true (by rw [e])]
          refine iteT ⟨_, rfl, p, c, 3, rfl, hP3, by omega, by omega, fun d H4 d0 d1 fr4 hP4 => ⟨rfl, _, rfl, ite2 (fun e => ?_) (fun e => skip H4 fr4 hP4)⟩⟩
          refine ⟨by decide, fun l3 nl3 => ?_⟩
          have hP5 := hP4.new (o := .lst ([7, 9, 15].map V.int)) nl3
          refine ⟨_, rfl, p, c, 3, rfl, hP5, by omega, by omega, fun m2 H6 m20 m21 fr6 hP6 => ?_⟩
          obtain ⟨m, hm, em⟩ := at_ints (ns := [7, 9, 15]) m20 (by simpa using m21)
          obtain ⟨l3p, l3c⟩ := hP4.ne nl3
          refine ⟨l3, [7, 9, 15].map V.int, m2, .int m, rfl, rfl, SqL.of (fr6 l3 _ l3p l3c upd_same), em, m, rfl, ?_, ?_, ?_, (fr13.trans fr4).trans ((Fr2.new nl3).trans fr6), hP6⟩ <;>
          · simp at hm
            omega
        · rw [decide_eq_false (fun z => e (V.int.inj z))]
          exact iteF (skip H3 (Fr2.refl p c H3) hP3)
      clear fr13 hP3
      rintro σ' H4 ⟨m, rfl, m0, m15, modd, fr4, hP4⟩
      -- ahead
      refine ⟨_, rfl, ?_⟩
      refine ⟨fun σ' H' => ∃ h : Int, σ' = [some (.ref p), some (.int 1), some (.int kind), some (.int f), some (.int n), some (.int lean), some (.ref F), some (.int (0 + i)), some (.int m), some (.int h), o10, none] ∧ 0 ≤ h ∧ h ≤ n ∧ H' = H4, ?_, ?_⟩
      · refine ⟨_, rfl, rfl, _, rfl, ite2 (fun e => ?_) (fun e => ?_)⟩
        · refine ⟨_, rfl, _, rfl, by omega, by omega, rfl⟩
        · exact ⟨n, rfl, by omega, by omega, rfl⟩
      rintro σ' H' ⟨h, rfl, h0, hn, rfl⟩
      -- shares
      refine ⟨_, rfl, _, rfl, by omega, by omega, fun o no => ?_⟩
      obtain ⟨op, oc⟩ := hP4.ne no
      refine lc_range (lo := 0) (n := m.toNat) (fun j H5 => ∃ ys ds, H5 o = some (.lst ys) ∧ Paired (HdAt H5) ys ds ∧ ds.length = j ∧ (∀ d ∈ ds, d.ok f n) ∧ Fr2 p c H' H5 ∧ PoolAt H5 p c) ?_ ?_ ?_
      · exact ⟨[], [], upd_same, .nil, rfl, (fun _ h => nomatch h), Fr2.new no, hP4.new no⟩
      · rintro j H5 hj ⟨ys, ds, ho, pr5, hl5, hok5, fr5, hP5⟩
        refine ⟨rfl, tyes ?_⟩
        refine ⟨_, rfl, _, rfl, _, rfl, _, rfl, p, c, f, h, lean, rfl, hP5, by omega, by omega, h0, by omega, fun x d H6 hx hd fr6 hP6 => ?_⟩
        have ho6 := fr6 o _ op oc ho
        have ts : TS H5 (upd H6 o (.lst (ys ++ [x]))) := (TS.fr2 hP5 fr6).trans (TS.lst ho6)
        refine ⟨ys, ho6, ?_, ys ++ [x], ds ++ [d], upd_same, paired_snoc (paired_ts (fun _ _ q => q.ts ts) pr5) (hx.ts (TS.lst ho6)), ?_, ?_, (fr5.trans fr6).written no, hP6.lst op oc rfl⟩
        · have := sizeBig
          rw [pr5.length]
          omega
        · rw [List.length_append, List.length_singleton, hl5]
        · intro d' hd'
          rcases List.mem_append.mp hd' with hd' | hd'
          · exact hok5 d' hd'
          · rw [List.mem_singleton.mp hd']
            exact hd.mono hn
      · rintro H5 ⟨ys, ds, ho, pr5, hl5, hok5, fr5, hP5⟩
        -- if kind == 3
        refine ⟨fun σ' H' => ∃ r ys ds, σ' = [some (.ref p), some (.int 1), some (.int kind), some (.int f), some (.int n), some (.int lean), some (.ref F), some (.int (0 + i)), some (.int m), some (.int h), some (.ref r), none] ∧
          H' r = some (.lst ys) ∧ Paired (HdAt H') ys ds ∧ ds.length = m.toNat ∧ (∀ d ∈ ds, d.ok f n) ∧ Fr2 p c H1 H' ∧ PoolAt H' p c, ?_, ?_⟩
        · refine ⟨_, rfl, rfl, _, rfl, ite2 (fun e => ?_) (fun e => ?_)⟩
          · refine ⟨_, rfl, m, 1, rfl, rfl, _, rfl, by omega, by omega, fun o2 no2 => ?_⟩
            obtain ⟨o2p, o2c⟩ := hP5.ne no2
            have oo2 : o ≠ o2 := ne_of_none ho no2
            refine lc_range (lo := 0) (n := (m - 1).toNat) (fun j H6 => ∃ ys' ds', H6 o2 = some (.lst ys') ∧ Paired (HdAt H6) ys' ds' ∧ ds'.length = j ∧ (∀ d ∈ ds', d.ok f n) ∧ TS H5 H6 ∧ H6 o = some (.lst ys) ∧ Fr2 p c H5 H6 ∧ PoolAt H6 p c) ?_ ?_ ?_
            · exact ⟨[], [], upd_same, .nil, rfl, (fun _ h => nomatch h), TS.upd no2, by rw [upd_ne oo2]; exact ho, Fr2.new no2, hP5.new no2⟩
            · rintro j H6 hj ⟨ys', ds', ho2, pr6, hl6, hok6, ts6, ho6, fr6, hP6⟩
              refine ⟨rfl, tyes ?_⟩
              refine ⟨_, rfl, _, rfl, .inl ⟨_, rfl, _, 2, rfl, rfl, (by show (0 : Int) < 2; decide), ?_⟩⟩
              have j2 : 0 ≤ (0 + (j : Int)) % 2 ∧ (0 + (j : Int)) % 2 < 2 := ⟨by omega, by omega⟩
              have ll := pr5.length
              have lt : ((0 + (j : Int)) % 2).toNat < ys.length := by omega
              obtain ⟨x, d, hx, hd, hm, hat⟩ := paired_mem pr5 lt
              refine ⟨o, ys, _, x, rfl, rfl, SqL.of ho6, at_of (Int.toNat_of_nonneg j2.1).symm hx, ?_⟩
              have tsl : TS H6 (upd H6 o2 (.lst (ys' ++ [x]))) := TS.lst ho2
              refine ⟨ys', ho2, ?_, ys' ++ [x], ds' ++ [d], upd_same, paired_snoc (paired_ts (fun _ _ q => q.ts tsl) pr6) ((hat.ts ts6).ts tsl), ?_, ?_, ts6.written no2, by rw [upd_ne oo2]; exact ho6, fr6.written no2, hP6.lst o2p o2c rfl⟩
              · have := sizeBig
                rw [pr6.length]
                omega
              · rw [List.length_append, List.length_singleton, hl6]
              · intro d' hd'
                rcases List.mem_append.mp hd' with hd' | hd'
                · exact hok6 d' hd'
                · rw [List.mem_singleton.mp hd']
                  exact hok5 d hm
            · rintro H6 ⟨ys', ds', ho2, pr6, hl6, hok6, ts6, ho6, fr6, hP6⟩
              have ll := pr5.length
              have lt : m.toNat - 1 < ys.length := by omega
              obtain ⟨x, d, hx, hd, hm, hat⟩ := paired_mem pr5 lt
              refine ⟨_, rfl, _, rfl, o, ys, _, x, rfl, rfl, SqL.of ho6, ?_, ?_⟩
              · have : ixN ys.length (-1) = some (m.toNat - 1) := by
                  unfold ixN
                  rw [if_neg (by decide), if_pos (by omega)]
                  congr 1
                  omega
                unfold atI
                show (ixN ys.length (-1)).bind _ = _
                rw [this]
                exact hx
              · refine ⟨(by show (1 : Nat) ≤ sizeLine; decide), fun l4 nl4 => ?_⟩
                have o24 : o2 ≠ l4 := ne_of_none ho2 nl4
                refine ⟨o2, l4, ys', [x], rfl, rfl, by rw [upd_ne o24]; exact ho2, upd_same, ?_, fun r nr => ?_⟩
                · have := sizeBig
                  rw [pr6.length, List.length_singleton]
                  omega
                · have ts7 : TS H6 (upd (upd H6 l4 (.lst [x])) r (.lst (ys' ++ [x]))) := (TS.upd nl4).trans (TS.upd nr)
                  refine ⟨r, ys' ++ [x], ds' ++ [d], rfl, upd_same, paired_snoc (paired_ts (fun _ _ q => q.ts ts7) pr6) (hat.ts (ts6.trans ts7)), ?_, ?_, ((fr4.trans fr5).trans fr6).trans ((Fr2.new nl4).trans (Fr2.new nr)), (hP6.new nl4).new nr⟩
                  · rw [List.length_append, List.length_singleton, hl6]
                    omega
                  · intro d' hd'
                    rcases List.mem_append.mp hd' with hd' | hd'
                    · exact hok6 d' hd'
                    · rw [List.mem_singleton.mp hd']
                      exact hok5 d hm
          · exact ⟨o, ys, ds, rfl, ho, pr5, hl5, hok5, fr4.trans fr5, hP5⟩
        clear pr5 ho hok5 fr5 hP5 fr4 hP4 hl5
        rintro σ' H6 ⟨r, ys, ds, rfl, hr', pr6, hl6, hok6, fr6, hP6⟩
        -- found.append(tuple(sorted(shares)))
        have hF6 := fr6 F _ Fp Fc hF
        refine ⟨_, rfl, .inl ⟨rfl, _, SqL.of hF6⟩, ?_⟩
        refine ⟨_, rfl, r, ys, ds, rfl, .inl (SqL.of hr'), pr6, ?_, fun zs es s1 ns1 prs pm asc => ?_⟩
        · have := sizeBig
          omega
        have ts7 : TS H6 (upd H6 s1 (.lst zs)) := TS.upd ns1
        have hP7 := hP6.new (o := .lst zs) ns1
        have fr7 : Fr2 p c H1 (upd H6 s1 (.lst zs)) := fr6.trans (Fr2.new ns1)
        have g1 : upd H6 s1 (.lst zs) s1 = some (.lst zs) := upd_same
        generalize upd H6 s1 (.lst zs) = H7 at ts7 hP7 fr7 g1 ⊢
        refine ⟨s1, zs, rfl, .inl ⟨SqL.of g1, fun t nt => ?_⟩⟩
        have hF7 := fr7 F _ Fp Fc hF
        have Ft : F ≠ t := ne_of_none hF7 nt
        have hF8 : upd H7 t (.tup zs) F = some (.lst xs) := by
          rw [upd_ne Ft]
          exact hF7
        have ts8 : TS H7 (upd H7 t (.tup zs)) := TS.upd nt
        have hP8 := hP7.new (o := .tup zs) nt
        have fr8 : Fr2 p c H1 (upd H7 t (.tup zs)) := fr7.trans (Fr2.new nt)
        have g2 : upd H7 t (.tup zs) t = some (.tup zs) := upd_same
        generalize upd H7 t (.tup zs) = H8 at ts8 hP8 fr8 g2 hF8 ⊢
        have ts9 : TS H8 (upd H8 F (.lst (xs ++ [.ref t]))) := TS.lst hF8
        have ts19 := (TS.fr2 hP1 fr8).trans ts9
        refine ⟨F, xs, .ref t, rfl, rfl, hF8, ?_, some (.int (0 + i)), some (.int m), some (.int h), some (.ref r), xs ++ [.ref t], hs ++ [es], rfl, upd_same, paired_snoc (paired_ts (fun _ _ q => q.ts ts19) pr) ⟨t, zs, rfl, ts9 _ _ g2, paired_ts (fun _ _ q => q.ts ((ts7.trans ts8).trans ts9)) prs⟩, ?_, ?_, (fr1.trans fr8).written nF0, hP8.lst Fp Fc rfl⟩
        · have := sizeBig
          rw [pr.length]
          omega
        · rw [List.length_append, List.length_singleton, hl]
        · intro ds' hd'
          rcases List.mem_append.mp hd' with hd' | hd'
          · exact hok ds' hd'
          · rw [List.mem_singleton.mp hd']
            have le := pm.length_eq
            exact ⟨by omega, by omega, fun d hd => hok6 d (pm.mem_iff.mp hd), asc⟩
    · rintro σ H1 ⟨o7, o8, o9, o10, xs, hs, rfl, hF, pr, hl, hok, fr1, hP1⟩
      have big := sizeBig
      refine ⟨_, rfl, _, rfl, F, xs, rfl, .inl ⟨SqL.of hF, fun t nt => ⟨(by show (2 : Nat) ≤ sizeLine; decide), fun u nu => ?_⟩⟩⟩
      have ts1 : TS H1 (upd H1 t (.tup xs)) := TS.upd nt
      have ts2 : TS (upd H1 t (.tup xs)) (upd (upd H1 t (.tup xs)) u (.tup [.int f, .ref t])) := TS.upd nu
      have e1 : (hs.length : Int) = n := by omega
      refine q (.ref u) f hs _ ⟨u, .ref t, rfl, upd_same, t, xs, rfl, ts2 _ _ upd_same, paired_ts (fun _ _ q => q.ts (ts1.trans ts2)) pr⟩ ⟨f0, f6, by omega, ?_⟩ (by omega) ((fr1.trans (Fr2.new nt)).trans (Fr2.new nu)) ((hP1.new nt).new nu)
      rw [e1]
      exact hok
end
end K23
/-! The plain law of layers. -/
namespace K23
/-- the whole numbers below n -/
def upto (n : Nat) : List Int := (List.range n).map Int.ofNat
theorem mem_upto {n : Nat} {k : Int} : k ∈ upto n ↔ 0 ≤ k ∧ k < n := by
  unfold upto
  rw [List.mem_map]
  constructor
  · rintro ⟨j, hj, rfl⟩
    rw [List.mem_range] at hj
    exact ⟨Int.natCast_nonneg j, Int.ofNat_lt.mpr hj⟩
  · rintro ⟨h0, h1⟩
    exact ⟨k.toNat, List.mem_range.mpr (by omega), by show ((k.toNat : Nat) : Int) = k; omega⟩
theorem length_upto (n : Nat) : (upto n).length = n := by
  unfold upto
  rw [List.length_map, List.length_range]
theorem get_upto {n i : Nat} (h : i < n) : (upto n)[i]? = some (i : Int) := by
  unfold upto
  rw [List.getElem?_map, List.getElem?_range h]
  rfl
theorem nodup_upto (n : Nat) : (upto n).Nodup := by
  unfold upto
  rw [List.nodup_iff_pairwise_ne, List.pairwise_map]
  refine List.Pairwise.imp ?_ (List.nodup_iff_pairwise_ne.mp List.nodup_range)
  intro a b h e
  exact h (Int.ofNat.inj e)
section
variable {N : Nat} {hf : Int → List Int → Bool}
theorem IsRow.app (m : Mono hf) : ∀ {l r : List Int}, IsRow N hf r → l.Nodup → (∀ k ∈ l, 0 ≤ k ∧ k < N ∧ k ∉ r ∧ hf k r = true) → IsRow N hf (r ++ l)
  | [], r, h, _, _ => by rwa [List.append_nil]
  | x :: l, r, h, hn, hl => by
    obtain ⟨a1, a2, a3, a4⟩ := hl x List.mem_cons_self
    rw [List.nodup_cons] at hn
    have h1 : IsRow N hf (r ++ [x]) := .snoc h a1 a2 a3 a4
    have := IsRow.app m h1 hn.2 fun k hk => by
      obtain ⟨b1, b2, b3, b4⟩ := hl k (List.mem_cons_of_mem _ hk)
      refine ⟨b1, b2, fun z => ?_, m k r _ (fun y hy => List.mem_append_left _ hy) b4⟩
      rcases List.mem_append.mp z with z | z
      · exact b3 z
      · rw [List.mem_singleton.mp z] at hk
        exact hn.1 hk
    rwa [List.append_assoc] at this
/-- the layers: each all that the former ones carry -/
structure Lay (N : Nat) (hf : Int → List Int → Bool) (L : List (List Int)) : Prop where
  row : IsRow N hf L.flatten
  few : L.length ≤ L.flatten.length
  lay : ∀ (i : Nat) (l : List Int), L[i]? = some l → ∀ k : Int, k ∈ l ↔ (0 ≤ k ∧ k < N ∧ k ∉ (L.take i).flatten ∧ hf k (L.take i).flatten = true)
def Shut (N : Nat) (hf : Int → List Int → Bool) (S : List Int) : Prop := ∀ k : Int, 0 ≤ k → k < N → k ∉ S → hf k S = false
theorem Lay.zero : Lay N hf [] := ⟨.nil, Nat.le_refl _, fun i l h => by simp at h⟩
theorem Lay.snoc (m : Mono hf) {L : List (List Int)} (A : Lay N hf L) {l : List Int} (hz : 0 < l.length) (hn : l.Nodup) (hl : ∀ k : Int, k ∈ l ↔ (0 ≤ k ∧ k < N ∧ k ∉ L.flatten ∧ hf k L.flatten = true)) : Lay N hf (L ++ [l]) := by
  constructor
  · rw [List.flatten_append]
    have := IsRow.app m A.row hn fun k hk => (hl k).mp hk
    simpa using this
  · rw [List.flatten_append, List.length_append, List.length_append, List.flatten_cons, List.flatten_nil, List.append_nil, List.length_singleton]
    have := A.few
    omega
  · intro i l' h k
    by_cases hi : i < L.length
    · rw [List.getElem?_append_left hi] at h
      rw [List.take_append_of_le_length (Nat.le_of_lt hi)]
      exact A.lay i l' h k
    · have hlt := (List.getElem?_eq_some_iff.mp h).1
      rw [List.length_append, List.length_singleton] at hlt
      have e : i = L.length := by omega
      subst e
      rw [List.getElem?_append_right (Nat.le_refl _), Nat.sub_self] at h
      have e2 : l = l' := Option.some.inj h
      subst e2
      rw [List.take_left]
      exact hl k
/-- the fresh ones -/
def fresh (N : Nat) (hf : Int → List Int → Bool) (S : List Int) : List Int := (upto N).filter fun k => !decide (k ∈ S) && hf k S
theorem mem_fresh {S : List Int} {k : Int} : k ∈ fresh N hf S ↔ (0 ≤ k ∧ k < N ∧ k ∉ S ∧ hf k S = true) := by
  unfold fresh
  rw [List.mem_filter, mem_upto, Bool.and_eq_true, Bool.not_eq_true', decide_eq_false_iff_not, and_assoc]
theorem nodup_fresh {S : List Int} : (fresh N hf S).Nodup := (nodup_upto N).filter _
theorem shut_fresh {S : List Int} (h : fresh N hf S = []) : Shut N hf S := fun k h0 h1 h2 => by
  cases e : hf k S with
  | false => rfl
  | true =>
    have : k ∈ fresh N hf S := mem_fresh.mpr ⟨h0, h1, h2, e⟩
    rw [h] at this
    cases this
theorem shut_full {S : List Int} (A : IsRow N hf S) (h : N ≤ S.length) : Shut N hf S := fun k h0 h1 h2 => by
  exfalso
  have hn : (k :: S).Nodup := List.nodup_cons.mpr ⟨h2, A.nodup⟩
  have := nodup_length N (k :: S) hn (fun x hx => by
    rcases List.mem_cons.mp hx with rfl | hx
    · exact ⟨h0, h1⟩
    · exact A.bound x hx)
  rw [List.length_cons] at this
  omega
theorem take_sub {L : List (List Int)} {n : Nat} {x : Int} (h : x ∈ (L.take n).flatten) : x ∈ (L.take (n + 1)).flatten := by
  rw [List.take_add_one, List.flatten_append]
  exact List.mem_append_left _ h
theorem Lay.bound (m : Mono hf) {L : List (List Int)} (A : Lay N hf L) (s : Shut N hf L.flatten) {r : List Int} (h : IsRow N hf r) : ∀ x ∈ r, x ∈ (L.take r.length).flatten := by
  induction h with
  | nil => intro x hx; cases hx
  | @snoc r k h1 h2 h3 h4 h5 ih =>
    rw [List.length_append, List.length_singleton]
    intro x hx
    rcases List.mem_append.mp hx with hx | hx
    · exact take_sub (ih x hx)
    · rw [List.mem_singleton.mp hx]
      have hk : hf k (L.take r.length).flatten = true := m k r _ ih h5
      by_cases e : k ∈ (L.take r.length).flatten
      · exact take_sub e
      · by_cases hl : r.length < L.length
        · have hg : L[r.length]? = some L[r.length] := List.getElem?_eq_getElem hl
          have := (A.lay _ _ hg k).mpr ⟨h2, h3, e, hk⟩
          rw [List.take_add_one, hg, List.flatten_append]
          refine List.mem_append_right _ ?_
          simpa using this
        · rw [List.take_of_length_le (by omega)] at hk e
          rw [s k h2 h3 e] at hk
          cases hk
theorem mem_take_flatten {L : List (List Int)} {n : Nat} {x : Int} (h : x ∈ (L.take n).flatten) : ∃ j l, j < n ∧ L[j]? = some l ∧ x ∈ l := by
  obtain ⟨l, hl, hx⟩ := List.mem_flatten.mp h
  obtain ⟨j, hj⟩ := List.mem_iff_getElem?.mp hl
  have hjl := (List.getElem?_eq_some_iff.mp hj).1
  rw [List.length_take] at hjl
  rw [List.getElem?_take_of_lt (by omega)] at hj
  exact ⟨j, l, by omega, hj, hx⟩
/-- what the depth tells -/
def DepthIs (N : Nat) (hf : Int → List Int → Bool) (h : Int) (d : Int) : Prop := (d = -1 ∧ Never N hf h) ∨ (∃ k : Nat, d = k ∧ (∀ r, IsRow N hf r → Ends r h → k < r.length) ∧ ¬ Never N hf h)
theorem Ends.mem {r : List Int} {h : Int} (e : Ends r h) : h ∈ r := by
  obtain ⟨r', rfl⟩ := e
  exact List.mem_append_right _ List.mem_cons_self
theorem Lay.never (m : Mono hf) {L : List (List Int)} (A : Lay N hf L) (s : Shut N hf L.flatten) {h : Int} (no : ∀ l ∈ L, h ∉ l) : Never N hf h := fun r hr he => by
  obtain ⟨j, l, _, h2, h3⟩ := mem_take_flatten (A.bound m s hr h he.mem)
  exact no l (List.mem_of_getElem? h2) h3
theorem Lay.depth (m : Mono hf) {L : List (List Int)} (A : Lay N hf L) (s : Shut N hf L.flatten) {h : Int} {k : Nat} {l : List Int} (hk : L[k]? = some l) (hl : h ∈ l) (no : ∀ (j : Nat) (l' : List Int), j < k → L[j]? = some l' → h ∉ l') : DepthIs N hf h k := by
  refine .inr ⟨k, rfl, fun r hr he => ?_, fun nv => ?_⟩
  · obtain ⟨j, l', h1, h2, h3⟩ := mem_take_flatten (A.bound m s hr h he.mem)
    by_cases e : j < k
    · exact absurd h3 (no j l' e h2)
    · omega
  · obtain ⟨a1, a2, a3, a4⟩ := (A.lay k l hk h).mp hl
    have p : IsRow N hf (L.take k).flatten := by
      have e : L.flatten = (L.take k).flatten ++ (L.drop k).flatten := by rw [← List.flatten_append, List.take_append_drop]
      have q := A.row
      rw [e] at q
      exact IsRow.pre rfl q
    exact nv _ (.snoc p a1 a2 a3 a4) ⟨_, rfl⟩
/-- a row and all that may stand behind it -/
def ext (N : Nat) (hf : Int → List Int → Bool) (r : List Int) : List (List Int) := (fresh N hf r).map fun k => r ++ [k]
theorem AllRows.step {n : Nat} {F : List (List Int)} (A : AllRows N hf n F) : AllRows N hf (n + 1) (F.flatMap (ext N hf)) := by
  constructor
  · intro r hr
    obtain ⟨s, hs, hr⟩ := List.mem_flatMap.mp hr
    obtain ⟨k, hk, rfl⟩ := List.mem_map.mp hr
    obtain ⟨a1, a2, a3, a4⟩ := mem_fresh.mp hk
    obtain ⟨b1, b2⟩ := A.ok s hs
    refine ⟨.snoc b1 a1 a2 a3 a4, ?_⟩
    rw [List.length_append, List.length_singleton, b2]
  · intro r hr hl
    cases hr with
    | nil => cases hl
    | @snoc r k h1 h2 h3 h4 h5 =>
      rw [List.length_append, List.length_singleton] at hl
      exact List.mem_flatMap.mpr ⟨r, A.all r h1 (by omega), List.mem_map.mpr ⟨k, mem_fresh.mpr ⟨h2, h3, h4, h5⟩, rfl⟩⟩
theorem length_fresh {S : List Int} : (fresh N hf S).length ≤ N := nodup_length _ _ nodup_fresh fun k hk => ⟨(mem_fresh.mp hk).1, (mem_fresh.mp hk).2.1⟩
theorem length_ext {r : List Int} : (ext N hf r).length ≤ N := by
  unfold ext
  rw [List.length_map]
  exact length_fresh
theorem length_exts : ∀ F : List (List Int), (F.flatMap (ext N hf)).length ≤ F.length * N
  | [] => by simp
  | r :: F => by
    rw [List.flatMap_cons, List.length_append, List.length_cons, Nat.succ_mul]
    have := length_exts F
    have := length_ext (N := N) (hf := hf) (r := r)
    omega
/-! ### how many lots of houses there are -/
theorem top_end {N : Nat} {k : List Int} (ha : k.Pairwise (· < ·)) (hb : ∀ x ∈ k, 0 ≤ x ∧ x < ((N + 1 : Nat) : Int)) (hm : (N : Int) ∈ k) : ∃ a, k = a ++ [(N : Int)] ∧ a.Pairwise (· < ·) ∧ ∀ x ∈ a, 0 ≤ x ∧ x < (N : Int) := by
  obtain ⟨a, b, rfl⟩ := List.append_of_mem hm
  rw [List.pairwise_append, List.pairwise_cons] at ha
  obtain ⟨h1, ⟨h2, _⟩, h3⟩ := ha
  have hb0 : b = [] := by
    cases b with
    | nil => rfl
    | cons y b =>
      exfalso
      have e1 := h2 y List.mem_cons_self
      have e2 := hb y (List.mem_append_right _ (List.mem_cons_of_mem _ List.mem_cons_self))
      omega
  subst hb0
  refine ⟨a, rfl, h1, fun x hx => ?_⟩
  have e1 := h3 x hx N List.mem_cons_self
  have e2 := hb x (List.mem_append_left _ hx)
  exact ⟨e2.1, e1⟩
theorem length_split {α : Type} (p : α → Bool) : ∀ l : List α, l.length = (l.filter p).length + (l.filter fun x => !p x).length
  | [] => rfl
  | x :: l => by
    have ih := length_split p l
    by_cases e : p x = true
    · rw [List.filter_cons_of_pos e, List.filter_cons_of_neg (by rw [e]; exact Bool.false_ne_true), List.length_cons, List.length_cons]
      omega
    · rw [List.filter_cons_of_neg e, List.filter_cons_of_pos (by rw [Bool.eq_false_iff.mpr e]; rfl), List.length_cons, List.length_cons]
      omega
theorem count_asc : ∀ (N : Nat) (ks : List (List Int)), ks.Nodup → (∀ k ∈ ks, k.Pairwise (· < ·) ∧ ∀ x ∈ k, 0 ≤ x ∧ x < (N : Int)) → ks.length ≤ 2 ^ N
  | 0, ks, hn, h => by
    have e : ∀ k ∈ ks, k = [] := fun k hk => by
      cases k with
      | nil => rfl
      | cons x k =>
        have := (h _ hk).2 x List.mem_cons_self
        omega
    match ks, hn, e with
    | [], _, _ => simp
    | [_], _, _ => simp
    | a :: b :: _, hn, e =>
      exfalso
      rw [List.nodup_cons] at hn
      apply hn.1
      rw [e a List.mem_cons_self, ← e b (List.mem_cons_of_mem _ List.mem_cons_self)]
      exact List.mem_cons_self
  | N + 1, ks, hn, h => by
    have hA : (ks.filter fun k => decide ((N : Int) ∈ k)).length ≤ 2 ^ N := by
      have := count_asc N ((ks.filter fun k => decide ((N : Int) ∈ k)).map List.dropLast) (by
        rw [List.nodup_iff_pairwise_ne, List.pairwise_map]
        refine List.Pairwise.imp_of_mem ?_ (List.nodup_iff_pairwise_ne.mp (hn.filter _))
        intro a b ha hb hab e
        rw [List.mem_filter] at ha hb
        obtain ⟨a', ea, _, _⟩ := top_end (h a ha.1).1 (h a ha.1).2 (of_decide_eq_true ha.2)
        obtain ⟨b', eb, _, _⟩ := top_end (h b hb.1).1 (h b hb.1).2 (of_decide_eq_true hb.2)
        rw [ea, eb, List.dropLast_concat, List.dropLast_concat] at e
        rw [ea, eb, e] at hab
        exact hab rfl) (fun k hk => by
        obtain ⟨k', hk', rfl⟩ := List.mem_map.mp hk
        rw [List.mem_filter] at hk'
        obtain ⟨a', ea, h1, h2⟩ := top_end (h k' hk'.1).1 (h k' hk'.1).2 (of_decide_eq_true hk'.2)
        rw [ea, List.dropLast_concat]
        exact ⟨h1, h2⟩)
      rwa [List.length_map] at this
    have hB : (ks.filter fun k => !decide ((N : Int) ∈ k)).length ≤ 2 ^ N := count_asc N _ (hn.filter _) fun k hk => by
      rw [List.mem_filter] at hk
      obtain ⟨h1, h2⟩ := h k hk.1
      refine ⟨h1, fun x hx => ?_⟩
      have := h2 x hx
      have ne : x ≠ (N : Int) := fun z => by
        rw [z] at hx
        have := hk.2
        rw [decide_eq_true hx] at this
        cases this
      omega
    have e : ks.length = (ks.filter fun k => decide ((N : Int) ∈ k)).length + (ks.filter fun k => !decide ((N : Int) ∈ k)).length := length_split _ ks
    rw [Nat.pow_succ]
    omega
theorem Ent.strict {n : Nat} {e : List Int × List Int} (x : Ent N hf n e) : e.1.Pairwise (· < ·) ∧ ∀ k ∈ e.1, 0 ≤ k ∧ k < (N : Int) := by
  refine ⟨?_, fun k hk => x.row.bound k ((x.mem k).mp hk)⟩
  have nd : e.1.Nodup := x.perm.nodup_iff.mpr x.row.nodup
  have := List.Pairwise.and x.asc (List.nodup_iff_pairwise_ne.mp nd)
  exact this.imp fun h => by have := h.1; have := h.2; omega
theorem ents_size {n : Nat} {D : Tb} (nd : (D.map (·.1)).Nodup) (ok : ∀ e ∈ D, Ent N hf n e) : D.length ≤ 2 ^ N := by
  have := count_asc N (D.map (·.1)) nd fun k hk => by
    obtain ⟨e, he, rfl⟩ := List.mem_map.mp hk
    exact (ok e he).strict
  rwa [List.length_map] at this
end
end K23
/-! Drawn deep parts. -/
namespace K23
open PySem PySem.Spec PyProof.Rows L2
theorem sz {n : Nat} (h : n ≤ 1000000) : n ≤ sizeLine := Nat.le_trans h (Nat.le_of_lt sizeBig)
def toI : V → Int
  | .int i => i
  | _ => 0
theorem perm_ints {ys : List V} {ns : List Int} (h : ys.Perm (ns.map V.int)) : ∃ ms : List Int, ys = ms.map V.int ∧ ms.Perm ns := by
  refine ⟨ys.map toI, ?_, ?_⟩
  · rw [List.map_map]
    conv => lhs; rw [← List.map_id ys]
    refine List.map_congr_left fun x hx => ?_
    obtain ⟨i, _, e⟩ := List.mem_map.mp (h.mem_iff.mp hx)
    rw [← e]
    rfl
  · have e := h.map toI
    rw [List.map_map] at e
    rw [show (toI ∘ V.int) = id from rfl, List.map_id] at e
    exact e
theorem paired_set {α β : Type} {R : α → β → Prop} {x : α} {y : β} : ∀ {xs : List α} {ys : List β} (i : Nat), Paired R xs ys → R x y → Paired R (xs.set i x) (ys.set i y)
  | _, _, _, .nil, _ => .nil
  | _, _, 0, .cons _ t, h => .cons h t
  | _, _, i + 1, .cons a t, h => .cons a (paired_set i t h)
theorem paired_repl {α β : Type} {R : α → β → Prop} {x : α} {y : β} (h : R x y) : ∀ n : Nat, Paired R (List.replicate n x) (List.replicate n y)
  | 0 => .nil
  | n + 1 => .cons h (paired_repl h n)
theorem rgV_upto (n : Nat) : rgV 0 (n : Int) = (upto n).map V.int := by
  unfold rgV upto
  rw [List.map_map, Int.sub_zero, Int.toNat_natCast]
  refine List.map_congr_left fun i _ => ?_
  show V.int (0 + (i : Int)) = V.int (i : Int)
  rw [Int.zero_add]
section
variable {P : Program} {w : World} {K : PySem.W.Frag} {mg : Str → Option Value} {base : Heap}
abbrev n_law_deep_parts : List Str := ["_law_pool_here", "_law_houses", "_law_order", "_law_found", "_law_k", "_law_shares"]
theorem sc_law_deep_parts : FnScope n_law_deep_parts ["_law_pool_here"] (defScope s_law_deep_parts) := ⟨rfl, rfl, rfl, by decide +kernel, rfl, by decide +kernel, by decide +kernel⟩
def spDeep : Sp := fun vs H Q _ => ∃ (p c : Addr), vs = [.ref p] ∧ PoolAt H p c ∧
  ∀ (x : V) (folk : Int) (hs : List (List Hd)) (H' : Hp), PartsAt H' x folk hs → WebOk folk hs → 1 ≤ hs.length → Fr2 p c H H' → PoolAt H' p c → Q x H'
theorem ok_law_deep_parts (T : Txt K mg) (c_law_draw : Cal CX0 P w K mg base 1 "_law_draw" spDraw) (c_law_mixed : Cal CX0 P w K mg base 2 "_law_mixed" spMixed) (c_law_holder : Cal CX0 P w K mg base 2 "_law_holder" spHolder) (D : Df K mg "_law_deep_parts" s_law_deep_parts ["_law_pool_here"]) :
    Cal CX0 P w K mg base 3 "_law_deep_parts" spDeep := by
  refine D.cal sc_law_deep_parts (fun vs H Q E h => ?_) (fun f cdv A outer s H vs Q E hr h => ?_)
  · obtain ⟨p, c, rfl, _⟩ := h
    rfl
  · obtain ⟨p, c, rfl, hP, q⟩ := h
    have hu6 := hu60 hr
    have nd := sc_law_deep_parts.nd
    refine ⟨_, pss_cons (ps_set (i := 1) nd rfl (Or.inl rfl) (pe_op op_add pe_int (pe_cal c_law_draw hr (by decide) (by rfl) (pa_cons (pv 0) (pa_cons pe_int pa_nil)))))
      (pss_cons (ps_set (i := 2) nd rfl (Or.inl rfl) (pe_cal c_law_mixed hr (by decide) (by rfl) (pa_cons (pv 0) (pa_cons (pe_listRg rfl (by rfl) T.list (prg_1 (by rfl) T.range (pv 1))) pa_nil))))
      (pss_cons (ps_set (i := 3) nd rfl (Or.inl rfl) (pe_op op_rep (pe_lst (pa_cons (pe_tup pa_nil) pa_nil)) (pv 1)))
      (pss_cons (ps_for PassesOwn.never rfl (pi_range1 (by rfl) T.range (pa_cons (pv 1) pa_nil)) (pg_name (i := 4) nd rfl (Or.inl rfl))
        (pss_cons (ps_set (i := 5) nd rfl (Or.inl rfl) (pe_lst (pa_cons (pe_tup (pa_cons pe_str (pa_cons pe_int pa_nil))) (pa_cons (pe_tup (pa_cons pe_str (pa_cons pe_int pa_nil))) (pa_cons (pe_tup (pa_cons pe_str (pa_cons (pe_cal c_law_draw hr (by decide) (by rfl) (pa_cons (pv 0) (pa_cons pe_int pa_nil))) pa_nil))) pa_nil)))))
        (C8.pss_cut (ps_if (pt_cmpR op_gt (pv 4) pe_int (nomark _)) (pss_one (ps_set (i := 5) nd rfl (Or.inl rfl) (pe_lst (pa_cons (pe_tup (pa_cons pe_str (pa_cons (pe_ix ix_list (pv 2) (pe_cal c_law_draw hr (by decide) (by rfl) (pa_cons (pv 0) (pa_cons (pv 4) pa_nil))) (fun _ _ => rfl)) pa_nil))) (pa_cons (pe_tup (pa_cons pe_str (pa_cons (pe_ix ix_list (pv 2) (pe_cal c_law_draw hr (by decide) (by rfl) (pa_cons (pv 0) (pa_cons (pv 4) pa_nil))) (fun _ _ => rfl)) pa_nil))) (pa_cons (pe_cal c_law_holder hr (by decide) (by rfl) (pa_cons (pv 0) (pa_cons pe_int (pa_cons (pv 1) (pa_cons pe_int pa_nil))))) pa_nil)))))) pss_nil)
        (pss_one (ps_asg (pe_callTy call_tuple_of (by rfl) T.tuple (by decide +kernel) (pa_cons (pe_callB (cr_sortH hu6) (by rfl) T.sorted (by decide +kernel) (pa_cons (pv 5) pa_nil)) pa_nil)) (pg_sub (pv 3) (pe_ix ix_list (pv 2) (pv 4) (fun _ _ => rfl)) set_list))))))
      (pss_one (ps_ret (pe_tup (pa_cons pe_int (pa_cons (pe_callTy call_tuple_of (by rfl) T.tuple (by decide +kernel) (pa_cons (pv 3) pa_nil)) pa_nil)))))))), ?_⟩
    refine ⟨_, rfl, p, c, 3, rfl, hP, by omega, by omega, fun n1 H1 n10 n11 fr1 hP1 => ⟨6, n1, rfl, rfl, ?_⟩⟩
    have hn : ∃ n : Nat, (6 : Int) + n1 = n ∧ 6 ≤ n ∧ n ≤ 8 := ⟨(6 + n1).toNat, by omega, by omega, by omega⟩
    obtain ⟨n, en, n6, n8⟩ := hn
    dsimp only
    rw [en]
    refine ⟨_, rfl, _, rfl, n, rfl, ?_, fun l nl => ?_⟩
    · exact RgOk.of_le (by omega) (by omega) (by omega) (by omega)
    rw [rgV_upto]
    have big := sizeBig
    obtain ⟨lp, lc⟩ := hP1.ne nl
    refine ⟨p, c, l, _, rfl, hP1.new nl, upd_same, lp, lc, by rw [List.length_map, length_upto]; omega, fun O ys H2 nO hO pm fr2 hP2 => ?_⟩
    obtain ⟨os, rfl, pos⟩ := perm_ints pm
    have fr02 := (fr1.trans (Fr2.new nl)).trans fr2
    have nO1 : H1 O = none := by
      by_cases e : O = l
      · rw [e, upd_same] at nO
        cases nO
      · rwa [upd_ne e] at nO
    have nO0 : H O = none := fr1.fresh hP1 nO1
    obtain ⟨Op, Oc⟩ := hP1.ne nO1
    clear fr1 hP1 fr2 pm
    have los : os.length = n := by rw [pos.length_eq, length_upto]
    -- found
    refine ⟨sz (by show 0 ≤ 1000000; omega), fun t nt => ⟨sz (by show 1 ≤ 1000000; omega), fun l2 nl2 => ?_⟩⟩
    refine ⟨_, rfl, l2, n, _, rfl, rfl, upd_same, by omega, by omega, sz (by show 1 * (n : Int).toNat ≤ 1000000; omega), fun F nF => ?_⟩
    have ef : (List.replicate (n : Int).toNat [V.ref t]).flatten = List.replicate n (V.ref t) := by
      rw [Int.toNat_natCast]
      simp
    rw [ef]
    have frt := (Fr2.new (p := p) (c := c) (o := .tup []) nt)
    have hPt := hP2.new (o := .tup []) nt
    have frl := frt.trans (Fr2.new (p := p) (c := c) (o := .lst [V.ref t]) nl2)
    have hPl := hPt.new (o := .lst [V.ref t]) nl2
    have nF2 : H2 F = none := frl.fresh hPl nF
    have nF0 : H F = none := fr02.fresh hP2 nF2
    obtain ⟨Fp, Fc⟩ := hP2.ne nF2
    have OF : O ≠ F := ne_of_none hO nF2
    have e0 : HsAt (upd (upd (upd H2 t (.tup [])) l2 (.lst [V.ref t])) F (.lst (List.replicate n (V.ref t)))) (.ref t) [] := by
      refine ⟨t, [], rfl, ?_, .nil⟩
      exact TS.upd nF _ _ (TS.upd nl2 _ _ upd_same)
    have frF := fr02.trans (frl.trans (Fr2.new (p := p) (c := c) (o := .lst (List.replicate n (V.ref t))) nF))
    have hPF := hPl.new (o := .lst (List.replicate n (V.ref t))) nF
    have gF : upd (upd (upd H2 t (.tup [])) l2 (.lst [V.ref t])) F (.lst (List.replicate n (V.ref t))) F = some (.lst (List.replicate n (V.ref t))) := upd_same
    have hOF := (frl.trans (Fr2.new (p := p) (c := c) (o := .lst (List.replicate n (V.ref t))) nF)) O _ Op Oc hO
    generalize upd (upd (upd H2 t (.tup [])) l2 (.lst [V.ref t])) F (.lst (List.replicate n (V.ref t))) = H3 at e0 frF hPF gF hOF ⊢
    refine ⟨_, rfl, _, rfl, by omega, by omega, for_range (lo := 0) (n := (n : Int).toNat) (fun i σ H4 => ∃ o4 o5 xs hs, σ = [some (.ref p), some (.int n), some (.ref O), some (.ref F), o4, o5] ∧
      H4 F = some (.lst xs) ∧ H4 O = some (.lst (os.map V.int)) ∧ Paired (HsAt H4) xs hs ∧ hs.length = n ∧ (∀ (j : Nat) (k : Int), j < i → os[j]? = some k → ∃ ds, hs[k.toNat]? = some ds ∧ HouseOk 2 n ds) ∧ Fr2 p c H H4 ∧ PoolAt H4 p c) ?_ ?_ ?_⟩
    · exact ⟨_, _, _, List.replicate n [], rfl, gF, hOF, paired_repl e0 n, List.length_replicate, (fun j _ h _ => absurd h (Nat.not_lt_zero j)), frF, hPF⟩
    · rintro i σ H4 hi ⟨o4, o5, xs, hs, rfl, hF, hO4, pr, hl, hok, fr4, hP4⟩
      rw [Int.toNat_natCast] at hi
      clear frF hPF gF hOF e0 frl hPl frt hPt
      -- the first three shares
      refine ⟨sz (by show 2 ≤ 1000000; omega), fun t1 nt1 => ⟨sz (by show 2 ≤ 1000000; omega), fun t2 nt2 => ?_⟩⟩
      have hP5 := (hP4.new (o := .tup [.str "f", .int 0]) nt1).new (o := .tup [.str "f", .int 0]) nt2
      refine ⟨_, rfl, p, c, 2, rfl, hP5, by omega, by omega, fun d H6 d0 d1 fr6 hP6 => ⟨sz (by show 2 ≤ 1000000; omega), fun t3 nt3 => ⟨sz (by show 3 ≤ 1000000; omega), fun S nS => ?_⟩⟩⟩
      have hil : i < os.length := by omega
      have hat : os[i]? = some os[i] := List.getElem?_eq_getElem hil
      have hmm : 0 ≤ os[i] ∧ os[i] < (n : Int) := mem_upto.mp (pos.mem_iff.mp (List.getElem_mem hil))
      -- if k > 1
      refine ⟨fun σ' H' => ∃ S ys ds, σ' = [some (.ref p), some (.int n), some (.ref O), some (.ref F), some (.int (0 + i)), some (.ref S)] ∧ H' S = some (.lst ys) ∧ Paired (HdAt H') ys ds ∧ ds.length = 3 ∧ (∀ d ∈ ds, d.ok 2 n) ∧ Fr2 p c H4 H' ∧ PoolAt H' p c, ?_, ?_⟩
      · have gS : ∀ o : HO, upd (upd H6 t3 (.tup [.str "f", .int d])) S o S = some o := fun o => upd_same
        have tsa : TS H4 H6 := TS.trans (TS.trans (TS.upd nt1) (TS.upd nt2)) (TS.fr2 hP5 fr6)
        have tsb : TS H6 (upd (upd H6 t3 (.tup [.str "f", .int d])) S (.lst [.ref t1, .ref t2, .ref t3])) := (TS.upd nt3).trans (TS.upd nS)
        have frS : Fr2 p c H4 (upd (upd H6 t3 (.tup [.str "f", .int d])) S (.lst [.ref t1, .ref t2, .ref t3])) := (((Fr2.new nt1).trans (Fr2.new nt2)).trans fr6).trans ((Fr2.new nt3).trans (Fr2.new nS))
        have hPS : PoolAt (upd (upd H6 t3 (.tup [.str "f", .int d])) S (.lst [.ref t1, .ref t2, .ref t3])) p c := (hP6.new nt3).new nS
        refine ⟨_, rfl, _, 1, rfl, rfl, _, rfl, ite2 (fun e => ?_) (fun e => ?_)⟩
        · have e := of_decide_eq_true e
          have hOS := frS O _ Op Oc hO4
          refine ⟨_, rfl, _, rfl, _, rfl, p, c, _, rfl, hPS, by omega, by omega, fun d1 H7 d10 d11 fr7 hP7 => ?_⟩
          have hO7 := fr7 O _ Op Oc hOS
          obtain ⟨k1, hk1, ek1⟩ := at_ints (ns := os) d10 (by omega)
          have b1 : 0 ≤ k1 ∧ k1 < (n : Int) := mem_upto.mp (pos.mem_iff.mp hk1)
          refine ⟨O, _, d1, .int k1, rfl, rfl, SqL.of hO7, ek1, sz (by show 2 ≤ 1000000; omega), fun t4 nt4 => ?_⟩
          have hP8 := hP7.new (o := .tup [.str "h", .int k1]) nt4
          have hO8 := (Fr2.new (p := p) (c := c) (o := .tup [.str "h", .int k1]) nt4) O _ Op Oc hO7
          refine ⟨_, rfl, _, rfl, _, rfl, p, c, _, rfl, hP8, by omega, by omega, fun d2 H9 d20 d21 fr9 hP9 => ?_⟩
          have hO9 := fr9 O _ Op Oc hO8
          obtain ⟨k2, hk2, ek2⟩ := at_ints (ns := os) d20 (by omega)
          have b2 : 0 ≤ k2 ∧ k2 < (n : Int) := mem_upto.mp (pos.mem_iff.mp hk2)
          refine ⟨O, _, d2, .int k2, rfl, rfl, SqL.of hO9, ek2, sz (by show 2 ≤ 1000000; omega), fun t5 nt5 => ?_⟩
          have hP10 := hP9.new (o := .tup [.str "h", .int k2]) nt5
          refine ⟨_, rfl, _, rfl, p, c, 2, n, 3, rfl, hP10, by omega, by omega, by omega, by omega, fun x dx H11 hx hdx fr11 hP11 => ?_⟩
          refine ⟨sz (by show 3 ≤ 1000000; omega), fun S2 nS2 => ?_⟩
          have ts4 : TS H7 (upd H11 S2 (.lst [.ref t4, .ref t5, x])) := (((TS.upd nt4).trans (TS.fr2 hP8 fr9)).trans ((TS.upd nt5).trans (TS.fr2 hP10 fr11))).trans (TS.upd nS2)
          have g4 : upd H11 S2 (.lst [.ref t4, .ref t5, x]) t4 = some (.tup [.str "h", .int k1]) := TS.upd nS2 _ _ (TS.fr2 hP10 fr11 _ _ (TS.upd nt5 _ _ (TS.fr2 hP8 fr9 _ _ upd_same)))
          have g5 : upd H11 S2 (.lst [.ref t4, .ref t5, x]) t5 = some (.tup [.str "h", .int k2]) := TS.upd nS2 _ _ (TS.fr2 hP10 fr11 _ _ upd_same)
          refine ⟨S2, _, [.h k1, .h k2, dx], rfl, upd_same, .cons ⟨t4, rfl, g4⟩ (.cons ⟨t5, rfl, g5⟩ (.cons (hx.ts (TS.upd nS2)) .nil)), rfl, ?_, ?_, hP11.new nS2⟩
          · intro d' hd'
            simp only [List.mem_cons, List.not_mem_nil, or_false] at hd'
            rcases hd' with rfl | rfl | rfl
            · exact b1
            · exact b2
            · exact hdx
          · exact frS.trans ((((fr7.trans (Fr2.new nt4)).trans fr9).trans (Fr2.new nt5)).trans (fr11.trans (Fr2.new nS2)))
        · have h1 : H6 t1 = some (.tup [.str "f", .int 0]) := TS.fr2 hP5 fr6 _ _ (TS.upd nt2 _ _ upd_same)
          have h2 : H6 t2 = some (.tup [.str "f", .int 0]) := TS.fr2 hP5 fr6 _ _ upd_same
          refine ⟨S, _, [.f 0, .f 0, .f d], rfl, upd_same, .cons ⟨t1, rfl, tsb _ _ h1⟩ (.cons ⟨t2, rfl, tsb _ _ h2⟩ (.cons ⟨t3, rfl, TS.upd nS _ _ upd_same⟩ .nil)), rfl, ?_, frS, hPS⟩
          intro d' hd'
          simp only [List.mem_cons, List.not_mem_nil, or_false] at hd'
          rcases hd' with rfl | rfl | rfl
          · exact ⟨by omega, by omega⟩
          · exact ⟨by omega, by omega⟩
          · exact ⟨d0, d1⟩
      rintro σ' H7 ⟨S, ys, ds, rfl, hS, prs, lds, hds, fr7, hP7⟩
      -- found[order[k]] = tuple(sorted(shares))
      refine ⟨_, rfl, S, ys, ds, rfl, .inl (SqL.of hS), prs, sz (by omega), fun zs es s1 ns1 pr1 pm asc => ?_⟩
      refine ⟨s1, zs, rfl, .inl ⟨SqL.of upd_same, fun u nu => ?_⟩⟩
      have ts8 : TS H7 (upd (upd H7 s1 (.lst zs)) u (.tup zs)) := (TS.upd ns1).trans (TS.upd nu)
      have fr8 : Fr2 p c H4 (upd (upd H7 s1 (.lst zs)) u (.tup zs)) := fr7.trans ((Fr2.new ns1).trans (Fr2.new nu))
      have hP8 : PoolAt (upd (upd H7 s1 (.lst zs)) u (.tup zs)) p c := (hP7.new ns1).new nu
      have g8 : upd (upd H7 s1 (.lst zs)) u (.tup zs) u = some (.tup zs) := upd_same
      generalize upd (upd H7 s1 (.lst zs)) u (.tup zs) = H8 at ts8 fr8 hP8 g8 ⊢
      have hF8 := fr8 F _ Fp Fc hF
      have hO8 := fr8 O _ Op Oc hO4
      have ll := pr.length
      have ei : os[i] = ((os[i].toNat : Nat) : Int) := (Int.toNat_of_nonneg hmm.1).symm
      refine ⟨_, rfl, _, rfl, _, rfl, O, _, _, .int os[i], rfl, rfl, SqL.of hO8, at_of (j := i) (by omega) (by rw [List.getElem?_map, hat]; rfl), F, xs, os[i], os[i].toNat, rfl, rfl, hF8, ?_, ?_⟩
      · unfold ixN
        rw [if_pos hmm.1, if_pos (by omega)]
      have ts9 : TS H8 (upd H8 F (.lst (xs.set os[i].toNat (.ref u)))) := TS.lst hF8
      have ts49 := (TS.fr2 hP4 fr8).trans ts9
      refine ⟨_, _, xs.set os[i].toNat (.ref u), hs.set os[i].toNat es, rfl, upd_same, by rw [upd_ne OF]; exact hO8, paired_set _ (paired_ts (fun _ _ q => q.ts ts49) pr) ⟨u, zs, rfl, ts9 _ _ g8, paired_ts (fun _ _ q => q.ts (ts8.trans ts9)) pr1⟩, by rw [List.length_set, hl], ?_, (fr4.trans fr8).written nF0, hP8.lst Fp Fc rfl⟩
      intro j k hj hk
      have hes : HouseOk 2 n es := by
        have le := pm.length_eq
        exact ⟨by omega, by omega, fun d hd => hds d (pm.mem_iff.mp hd), asc⟩
      by_cases e : os[i].toNat = k.toNat
      · refine ⟨es, ?_, hes⟩
        rw [← e, List.getElem?_set_self (by omega)]
      · by_cases ej : j = i
        · subst ej
          rw [hat] at hk
          exact absurd (congrArg Int.toNat (Option.some.inj hk)) e
        · obtain ⟨ds', e1, e2⟩ := hok j k (by omega) hk
          refine ⟨ds', ?_, e2⟩
          rw [List.getElem?_set_ne e]
          exact e1
    · rintro σ H4 ⟨o4, o5, xs, hs, rfl, hF, hO4, pr, hl, hok, fr4, hP4⟩
      rw [Int.toNat_natCast] at hok
      refine ⟨_, rfl, F, xs, rfl, .inl ⟨SqL.of hF, fun t nt => ⟨sz (by show 2 ≤ 1000000; omega), fun u nu => ?_⟩⟩⟩
      have ts1 : TS H4 (upd H4 t (.tup xs)) := TS.upd nt
      have ts2 : TS (upd H4 t (.tup xs)) (upd (upd H4 t (.tup xs)) u (.tup [.int 2, .ref t])) := TS.upd nu
      refine q (.ref u) 2 hs _ ⟨u, .ref t, rfl, upd_same, t, xs, rfl, ts2 _ _ upd_same, paired_ts (fun _ _ q => q.ts (ts1.trans ts2)) pr⟩ ⟨by omega, by omega, by omega, ?_⟩ (by omega) ((fr4.trans (Fr2.new nt)).trans (Fr2.new nu)) ((hP4.new nt).new nu)
      rw [hl]
      intro ds hds
      obtain ⟨j, hj⟩ := List.mem_iff_getElem?.mp hds
      have hjn : j < n := by
        rw [← hl]
        exact (List.getElem?_eq_some_iff.mp hj).1
      have hm : (j : Int) ∈ os := pos.mem_iff.mpr (mem_upto.mpr ⟨by omega, by omega⟩)
      obtain ⟨k, hk⟩ := List.mem_iff_getElem?.mp hm
      have hkn : k < n := by
        rw [← los]
        exact (List.getElem?_eq_some_iff.mp hk).1
      obtain ⟨ds', e1, e2⟩ := hok k _ hkn hk
      rw [Int.toNat_natCast, hj] at e1
      rw [Option.some.inj e1]
      exact e2
end
end K23
/-! The pool made; what is the same. -/
namespace K23
open PySem PySem.Spec PyProof.Rows L2
theorem cut_ints (ns : List Int) (lo hi : Option Int) : ∃ ms : List Int, cutV (ns.map V.int) lo hi = ms.map V.int := by
  unfold cutV
  rw [← List.map_drop, ← List.map_take]
  exact ⟨_, rfl⟩
section
variable {P : Program} {w : World} {K : PySem.W.Frag} {mg : Str → Option Value} {base : Heap}
abbrev n_law_pool : List Str := ["_law_script", "_law_seed", "_law_cell"]
theorem sc_law_pool : FnScope n_law_pool ["_law_script"] (defScope s_law_pool) := ⟨rfl, rfl, rfl, by decide +kernel, rfl, by decide +kernel, by decide +kernel⟩
def spPool (K : PySem.W.Frag) : Sp := fun vs H Q _ => ∃ (a : Addr) (ns : List Int), vs = [.ref a] ∧ SqL K H a (ns.map V.int) ∧ ns.length ≤ 63 ∧ ∀ (p c : Addr) (H' : Hp), PoolAt H' p c → Q (.ref p) H'
theorem ok_law_pool (T : Txt K mg) (D : Df K mg "_law_pool" s_law_pool ["_law_script"]) : Cal CX0 P w K mg base 1 "_law_pool" (spPool K) := by
  refine D.cal sc_law_pool (fun vs H Q E h => ?_) (fun f cdv A outer s H vs Q E hr h => ?_)
  · obtain ⟨a, ns, rfl, _⟩ := h
    rfl
  · obtain ⟨a, ns, rfl, hs, hlen, q⟩ := h
    have nd := sc_law_pool.nd
    refine ⟨_, pss_cons (ps_set (i := 1) nd rfl (Or.inl rfl) (pe_op op_add (pe_op op_add (pe_op op_mod (pe_callTy call_int1 (by rfl) T.int (by decide +kernel) (pa_cons (pe_callB (cr_sum rfl) (by rfl) T.sum (by decide +kernel) (pa_cons (pe_slice sl_list (pv 0) po_none (po_some pe_int)) pa_nil)) pa_nil)) pe_int) (pe_callB call_len_seq (by rfl) T.len (by decide +kernel) (pa_cons (pv 0) pa_nil))) pe_int))
      (pss_cons (ps_for PassesOwn.never rfl (pi_list (pe_slice sl_list (pv 0) po_none (po_some pe_int))) (pg_name (i := 2) nd rfl (Or.inl rfl))
        (pss_one (ps_set (i := 1) nd rfl (Or.inl rfl) (pe_op op_mod (pe_callTy call_int1 (by rfl) T.int (by decide +kernel) (pa_cons (pe_op op_add (pe_op op_add (pe_op op_mul (pv 1) pe_int) (pe_op op_mod (pe_callTy call_int1 (by rfl) T.int (by decide +kernel) (pa_cons (pv 2) pa_nil)) pe_int)) pe_int) pa_nil)) pe_int))))
      (pss_one (ps_ret (pe_lst (pa_cons (pv 1) (pa_cons pe_int (pa_cons (pe_lc (own := [("_law_cell", 2)]) (g := (gName 2)) rfl nd (pi_list (pe_slice sl_list (pv 0) po_none (po_some pe_int))) (blkOk_by (N := n_law_pool) (sc := defScope s_law_pool) (by decide +kernel)) (fun _ _ _ _ _ => (pg_name (i := 2) nd rfl (Or.inl rfl))) (fun _ _ _ _ _ => (pts_one (pt_cmpR op_ge (pe_callB call_abs (by rfl) T.abs (by decide +kernel) (pa_cons (pv 2) pa_nil)) (pe_op op_pow pe_int pe_int) (nomark _)))) (fun _ _ _ _ _ => (pe_callB call_abs (by rfl) T.abs (by decide +kernel) (pa_cons (pv 2) pa_nil)))) pa_nil))))))), ?_⟩
    obtain ⟨m1, em1⟩ := cut_ints ns none (some 1)
    obtain ⟨m2, em2⟩ := cut_ints ns none (some 63)
    have l2 : m2.length ≤ 63 := by
      have := cutV_length (ns.map V.int) none (some 63)
      rw [em2, List.length_map, List.length_map] at this
      omega
    refine ⟨_, rfl, _, rfl, a, _, rfl, hs, fun p1 n1 => ?_⟩
    rw [em1]
    have hs1 := (same_upd (o := .lst (m1.map V.int)) n1).seq hs
    refine ⟨p1, m1, rfl, SqL.of upd_same, .inl ⟨_, rfl, _, 1000003, rfl, rfl, (by show (0 : Int) < 1000003; decide), _, rfl, a, _, rfl, .inl hs1, _, _, rfl, rfl, _, 1, rfl, rfl, ?_⟩⟩
    generalize upd H p1 (.lst (m1.map V.int)) = H1 at hs1 ⊢
    refine ⟨_, rfl, _, rfl, a, _, rfl, hs1, fun p2 n2 => ?_⟩
    rw [em2]
    have hs2 := (same_upd (o := .lst (m2.map V.int)) n2).seq hs1
    have g2 : upd H1 p2 (.lst (m2.map V.int)) p2 = some (.lst (m2.map V.int)) := upd_same
    generalize upd H1 p2 (.lst (m2.map V.int)) = H2 at hs2 g2 ⊢
    refine ⟨p2, rfl, ⟨_, SqL.of g2⟩, for_list (a := p2) (xs := m2.map V.int) (fun i σ H3 => H3 = H2 ∧ ∃ (sd : Int) (o2 : Option V), σ = [some (.ref a), some (.int sd), o2]) ⟨rfl, _, _, rfl⟩ (fun i σ H3 _ ⟨e, _⟩ => by rw [e]; exact SqL.of g2) ?_ ?_⟩
    · rintro i x σ H3 hi ⟨rfl, sd, o2, rfl⟩
      rw [List.getElem?_map] at hi
      obtain ⟨z, _, rfl⟩ := Option.map_eq_some_iff.mp hi
      refine ⟨_, rfl, sd, 48271, rfl, rfl, .inr ⟨by decide, by decide⟩, _, rfl, .inl ⟨z, rfl, z, 2147483629, rfl, rfl, (by show (0 : Int) < 2147483629; decide), _, _, rfl, rfl, _, 11, rfl, rfl, .inl ⟨_, rfl, _, 2147483647, rfl, rfl, (by show (0 : Int) < 2147483647; decide), rfl, _, _, rfl⟩⟩⟩
    · rintro σ H3 ⟨rfl, sd, o2, rfl⟩
      refine ⟨_, rfl, _, rfl, _, rfl, a, _, rfl, hs2, fun p3 n3 => ?_⟩
      rw [em2]
      have g3 : upd H3 p3 (.lst (m2.map V.int)) p3 = some (.lst (m2.map V.int)) := upd_same
      generalize upd H3 p3 (.lst (m2.map V.int)) = H4 at g3 ⊢
      refine ⟨p3, rfl, ⟨_, SqL.of g3⟩, fun o no => ?_⟩
      have p3o : p3 ≠ o := ne_of_none g3 no
      refine lc_list (a := p3) (xs := m2.map V.int) (fun i H5 => H5 p3 = some (.lst (m2.map V.int)) ∧ ∃ cs : List Int, H5 o = some (.lst (cs.map V.int)) ∧ cs.length ≤ i ∧ ∀ z ∈ cs, 0 ≤ z) ⟨by rw [upd_ne p3o]; exact g3, [], upd_same, Nat.le_refl _, (fun _ h => nomatch h)⟩ (fun i H5 _ ⟨e, _⟩ => SqL.of e) ?_ ?_
      · rintro i x H5 hi ⟨h3, cs, ho, hc, hz⟩
        have hil : i < m2.length := by
          have := (List.getElem?_eq_some_iff.mp hi).1
          rwa [List.length_map] at this
        rw [List.getElem?_map] at hi
        obtain ⟨z, _, rfl⟩ := Option.map_eq_some_iff.mp hi
        refine ⟨rfl, _, rfl, z, rfl, 10, 18, rfl, rfl, ⟨by decide, by decide, by decide⟩, _, _, rfl, rfl, _, rfl, ite2 (fun e => ?_) (fun e => ?_)⟩
        · refine ⟨_, rfl, z, rfl, _, ho, ?_, by rw [upd_ne p3o]; exact h3, cs ++ [if z < 0 then -z else z], by rw [upd_same, List.map_append]; rfl, by rw [List.length_append, List.length_singleton]; omega, ?_⟩
          · have := sizeBig
            rw [List.length_map]
            omega
          · intro y hy
            rcases List.mem_append.mp hy with hy | hy
            · exact hz y hy
            · rw [List.mem_singleton.mp hy]
              split <;> omega
        · exact ⟨h3, cs, ho, by omega, hz⟩
      · rintro H5 ⟨h3, cs, ho, hc, hz⟩
        refine ⟨sz (by show 3 ≤ 1000000; omega), fun p np => q p o _ ⟨sd, 0, cs, upd_same, ?_, hz⟩⟩
        rw [upd_ne (ne_of_none ho np)]
        exact ho

abbrev n_law_integer : List Str := ["_law_thing"]
theorem sc_law_integer : FnScope n_law_integer ["_law_thing"] (defScope s_law_integer) := ⟨rfl, rfl, rfl, by decide +kernel, rfl, by decide +kernel, by decide +kernel⟩
theorem ok_law_integer (T : Txt K mg) (D : Df K mg "_law_integer" s_law_integer ["_law_thing"]) : Cal CX0 P w K mg base 1 "_law_integer" spIsInt := by
  refine D.cal sc_law_integer (fun vs H Q E h => ?_) (fun f cdv A outer s H vs Q E hr h => ?_)
  · obtain ⟨i, rfl, _⟩ := h
    rfl
  · obtain ⟨i, rfl, q⟩ := h
    have nd := sc_law_integer.nd
    refine ⟨_, pss_one (ps_ret (pe_and (pe_callB (call_isB "int") (by rfl) T.isinstance (by decide +kernel) (pa_cons (pv 0) (pa_cons (pe_ty "int" rfl T.int (by decide +kernel)) pa_nil))) (pe_one (pe_not (pe_callB (call_isB "bool") (by rfl) T.isinstance (by decide +kernel) (pa_cons (pv 0) (pa_cons (pe_ty "bool" rfl T.bool (by decide +kernel)) pa_nil))))))), ?_⟩
    exact ⟨_, rfl, _, _, _, rfl, ty_int, kb_int_int, true, rfl, iteT ⟨_, rfl, _, _, _, rfl, ty_int, kb_int_bool, false, rfl, q⟩⟩
abbrev n_law_same : List Str := ["_law_actual", "_law_expected", "_law_k"]
theorem sc_law_same : FnScope n_law_same ["_law_actual", "_law_expected"] (defScope s_law_same) := ⟨rfl, rfl, rfl, by decide +kernel, rfl, by decide +kernel, by decide +kernel⟩
/-- two that are the same: whole numbers -/
def spSameI : Sp := fun vs H Q _ => ∃ i : Int, vs = [.int i, .int i] ∧ Q (.bl true) H
/-- two that are the same: none, or rows -/
def spSame : Sp := fun vs H Q _ => ∃ x y : V, vs = [x, y] ∧ ((x = .non ∧ y = .non) ∨ ∃ r, r.length ≤ 1000 ∧ RowAt H x r ∧ RowAt H y r) ∧ Q (.bl true) H
theorem ok_law_sameI (T : Txt K mg) (c_law_integer : Cal CX0 P w K mg base 1 "_law_integer" spIsInt) (D : Df K mg "_law_same" s_law_same ["_law_actual", "_law_expected"]) : Cal CX0 P w K mg base 2 "_law_same" spSameI := by
  have c_law_same : Cal CX0 P w K mg base 1 "_law_same" (fun _ _ _ _ => False) := D.cal sc_law_same (fun vs H Q E h => h.elim) (fun f cdv A outer s H vs Q E hr h => h.elim)
  refine D.cal sc_law_same (fun vs H Q E h => ?_) (fun f cdv A outer s H vs Q E hr h => ?_)
  · obtain ⟨i, rfl, _⟩ := h
    rfl
  · obtain ⟨i, rfl, q⟩ := h
    have nd := sc_law_same.nd
    refine ⟨_, pss_cons (ps_if (pt_cmpR op_isN (pv 1) pe_non (nomark _)) (pss_one (ps_ret (pe_cmpR op_isN (pv 0) pe_non (nomark _)))) pss_nil)
      (pss_cons (ps_if (pt_val (pe_callB (call_isB "bool") (by rfl) T.isinstance (by decide +kernel) (pa_cons (pv 1) (pa_cons (pe_ty "bool" rfl T.bool (by decide +kernel)) pa_nil)))) (pss_one (ps_ret (pe_and (pe_callB (call_isB "bool") (by rfl) T.isinstance (by decide +kernel) (pa_cons (pv 0) (pa_cons (pe_ty "bool" rfl T.bool (by decide +kernel)) pa_nil))) (pe_one (pe_cmpR op_eq (pv 0) (pv 1) (nomark _)))))) pss_nil)
      (pss_cons (ps_if (pt_val (pe_callB (call_isB "int") (by rfl) T.isinstance (by decide +kernel) (pa_cons (pv 1) (pa_cons (pe_ty "int" rfl T.int (by decide +kernel)) pa_nil)))) (pss_one (ps_ret (pe_and (pe_cal c_law_integer hr (by decide) (by rfl) (pa_cons (pv 0) pa_nil)) (pe_one (pe_cmpR op_eq (pv 0) (pv 1) (nomark _)))))) pss_nil)
      (pss_cons (ps_if (pt_val (pe_callB (call_isB "str") (by rfl) T.isinstance (by decide +kernel) (pa_cons (pv 1) (pa_cons (pe_ty "str" rfl T.str (by decide +kernel)) pa_nil)))) (pss_one (ps_ret (pe_and (pe_callB (call_isB "str") (by rfl) T.isinstance (by decide +kernel) (pa_cons (pv 0) (pa_cons (pe_ty "str" rfl T.str (by decide +kernel)) pa_nil))) (pe_one (pe_cmpR op_eq (pv 0) (pv 1) (nomark _)))))) pss_nil)
      (pss_cons (ps_if (PW.pt (pw_and (pt_val (pe_callB (call_isB "tuple") (by rfl) T.isinstance (by decide +kernel) (pa_cons (pv 1) (pa_cons (pe_ty "tuple" rfl T.tuple (by decide +kernel)) pa_nil)))) (pw_and1 (pt_not (pt_val (pe_callB (call_isB "tuple") (by rfl) T.isinstance (by decide +kernel) (pa_cons (pv 0) (pa_cons (pe_ty "tuple" rfl T.tuple (by decide +kernel)) pa_nil)))))))) (pss_one (ps_ret pe_bl)) pss_nil)
      (pss_cons (ps_if (PW.pt (pw_and (pt_val (pe_callB (call_isB "list") (by rfl) T.isinstance (by decide +kernel) (pa_cons (pv 1) (pa_cons (pe_ty "list" rfl T.list (by decide +kernel)) pa_nil)))) (pw_and1 (pt_not (pt_val (pe_callB (call_isB "list") (by rfl) T.isinstance (by decide +kernel) (pa_cons (pv 0) (pa_cons (pe_ty "list" rfl T.list (by decide +kernel)) pa_nil)))))))) (pss_one (ps_ret pe_bl)) pss_nil)
      (pss_cons (ps_if (pt_cmpR op_ne (pe_callB call_len_seq (by rfl) T.len (by decide +kernel) (pa_cons (pv 0) pa_nil)) (pe_callB call_len_seq (by rfl) T.len (by decide +kernel) (pa_cons (pv 1) pa_nil)) (nomark _)) (pss_one (ps_ret pe_bl)) pss_nil)
      (pss_cons (ps_for PassesOwn.never rfl (pi_range1 (by rfl) T.range (pa_cons (pe_callB call_len_seq (by rfl) T.len (by decide +kernel) (pa_cons (pv 1) pa_nil)) pa_nil)) (pg_name (i := 2) nd rfl (Or.inl rfl))
        (pss_one (ps_if (pt_not (pt_val (pe_cal c_law_same hr (by decide) (by rfl) (pa_cons (pe_ix ix_tup (pv 0) (pv 2) (fun _ _ => rfl)) (pa_cons (pe_ix ix_tup (pv 1) (pv 2) (fun _ _ => rfl)) pa_nil))))) (pss_one (ps_ret pe_bl)) pss_nil)))
      (pss_one (ps_ret pe_bl))))))))), ?_⟩
    refine ⟨_, rfl, rfl, _, rfl, iteF ⟨_, rfl, _, _, _, rfl, ty_int, kb_int_bool, false, rfl, iteF ⟨_, rfl, _, _, _, rfl, ty_int, kb_int_int, true, rfl, iteT ⟨_, rfl, i, rfl, true, rfl, iteT ⟨_, rfl, _, rfl, rfl, ?_⟩⟩⟩⟩⟩
    rw [decide_eq_true rfl]
    exact q
theorem ok_law_same (T : Txt K mg) (c_law_integer : Cal CX0 P w K mg base 1 "_law_integer" spIsInt) (c_law_same : Cal CX0 P w K mg base 2 "_law_same" spSameI) (D : Df K mg "_law_same" s_law_same ["_law_actual", "_law_expected"]) : Cal CX0 P w K mg base 3 "_law_same" spSame := by
  refine D.cal sc_law_same (fun vs H Q E h => ?_) (fun f cdv A outer s H vs Q E hr h => ?_)
  · obtain ⟨x, y, rfl, _⟩ := h
    rfl
  · obtain ⟨x, y, rfl, hxy, q⟩ := h
    have nd := sc_law_same.nd
    refine ⟨_, pss_cons (ps_if (pt_cmpR op_isN (pv 1) pe_non (nomark _)) (pss_one (ps_ret (pe_cmpR op_isN (pv 0) pe_non (nomark _)))) pss_nil)
      (pss_cons (ps_if (pt_val (pe_callB (call_isB "bool") (by rfl) T.isinstance (by decide +kernel) (pa_cons (pv 1) (pa_cons (pe_ty "bool" rfl T.bool (by decide +kernel)) pa_nil)))) (pss_one (ps_ret (pe_and (pe_callB (call_isB "bool") (by rfl) T.isinstance (by decide +kernel) (pa_cons (pv 0) (pa_cons (pe_ty "bool" rfl T.bool (by decide +kernel)) pa_nil))) (pe_one (pe_cmpR op_eq (pv 0) (pv 1) (nomark _)))))) pss_nil)
      (pss_cons (ps_if (pt_val (pe_callB (call_isB "int") (by rfl) T.isinstance (by decide +kernel) (pa_cons (pv 1) (pa_cons (pe_ty "int" rfl T.int (by decide +kernel)) pa_nil)))) (pss_one (ps_ret (pe_and (pe_cal c_law_integer hr (by decide) (by rfl) (pa_cons (pv 0) pa_nil)) (pe_one (pe_cmpR op_eq (pv 0) (pv 1) (nomark _)))))) pss_nil)
      (pss_cons (ps_if (pt_val (pe_callB (call_isB "str") (by rfl) T.isinstance (by decide +kernel) (pa_cons (pv 1) (pa_cons (pe_ty "str" rfl T.str (by decide +kernel)) pa_nil)))) (pss_one (ps_ret (pe_and (pe_callB (call_isB "str") (by rfl) T.isinstance (by decide +kernel) (pa_cons (pv 0) (pa_cons (pe_ty "str" rfl T.str (by decide +kernel)) pa_nil))) (pe_one (pe_cmpR op_eq (pv 0) (pv 1) (nomark _)))))) pss_nil)
      (pss_cons (ps_if (PW.pt (pw_and (pt_val (pe_callB (call_isB "tuple") (by rfl) T.isinstance (by decide +kernel) (pa_cons (pv 1) (pa_cons (pe_ty "tuple" rfl T.tuple (by decide +kernel)) pa_nil)))) (pw_and1 (pt_not (pt_val (pe_callB (call_isB "tuple") (by rfl) T.isinstance (by decide +kernel) (pa_cons (pv 0) (pa_cons (pe_ty "tuple" rfl T.tuple (by decide +kernel)) pa_nil)))))))) (pss_one (ps_ret pe_bl)) pss_nil)
      (pss_cons (ps_if (PW.pt (pw_and (pt_val (pe_callB (call_isB "list") (by rfl) T.isinstance (by decide +kernel) (pa_cons (pv 1) (pa_cons (pe_ty "list" rfl T.list (by decide +kernel)) pa_nil)))) (pw_and1 (pt_not (pt_val (pe_callB (call_isB "list") (by rfl) T.isinstance (by decide +kernel) (pa_cons (pv 0) (pa_cons (pe_ty "list" rfl T.list (by decide +kernel)) pa_nil)))))))) (pss_one (ps_ret pe_bl)) pss_nil)
      (pss_cons (ps_if (pt_cmpR op_ne (pe_callB call_len_seq (by rfl) T.len (by decide +kernel) (pa_cons (pv 0) pa_nil)) (pe_callB call_len_seq (by rfl) T.len (by decide +kernel) (pa_cons (pv 1) pa_nil)) (nomark _)) (pss_one (ps_ret pe_bl)) pss_nil)
      (pss_cons (ps_for PassesOwn.never rfl (pi_range1 (by rfl) T.range (pa_cons (pe_callB call_len_seq (by rfl) T.len (by decide +kernel) (pa_cons (pv 1) pa_nil)) pa_nil)) (pg_name (i := 2) nd rfl (Or.inl rfl))
        (pss_one (ps_if (pt_not (pt_val (pe_cal c_law_same hr (by decide) (by rfl) (pa_cons (pe_ix ix_tup (pv 0) (pv 2) (fun _ _ => rfl)) (pa_cons (pe_ix ix_tup (pv 1) (pv 2) (fun _ _ => rfl)) pa_nil))))) (pss_one (ps_ret pe_bl)) pss_nil)))
      (pss_one (ps_ret pe_bl))))))))), ?_⟩
    rcases hxy with ⟨rfl, rfl⟩ | ⟨r, hr0, ⟨a, rfl, ha⟩, ⟨b, rfl, hb⟩⟩
    · exact ⟨_, rfl, rfl, _, rfl, iteT ⟨_, rfl, rfl, q⟩⟩
    · refine ⟨_, rfl, rfl, _, rfl, iteF ⟨_, rfl, _, _, _, rfl, ty_tup hb, kb_tuple_bool, false, rfl, iteF ⟨_, rfl, _, _, _, rfl, ty_tup hb, kb_tuple_int, false, rfl, iteF ⟨_, rfl, _, _, _, rfl, ty_tup hb, kb_tuple_str, false, rfl, iteF ?_⟩⟩⟩⟩
      refine ⟨_, rfl, _, _, _, rfl, ty_tup hb, kb_tuple_tuple, true, rfl, iteT ⟨_, rfl, _, _, _, rfl, ty_tup ha, kb_tuple_tuple, true, rfl, iteF ?_⟩⟩
      refine ⟨_, rfl, _, _, _, rfl, ty_tup hb, kb_tuple_list, false, rfl, iteF ?_⟩
      refine ⟨_, rfl, a, _, rfl, .inr (SqT.of ha), _, rfl, b, _, rfl, .inr (SqT.of hb), rfl, _, rfl, ?_⟩
      rw [decide_eq_true rfl]
      refine iteF ?_
      refine ⟨_, rfl, b, _, rfl, .inr (SqT.of hb), _, rfl, by omega, by rw [List.length_map]; omega, for_range (lo := 0) (n := ((r.map V.int).length : Int).toNat) (fun i σ H1 => H1 = H ∧ ∃ o2, σ = [some (.ref a), some (.ref b), o2]) ⟨rfl, _, rfl⟩ ?_ ?_⟩
      · rintro i σ H1 hi ⟨rfl, o2, rfl⟩
        rw [Int.toNat_natCast, List.length_map] at hi
        have hg : (r.map V.int)[i]? = some (.int r[i]) := by
          rw [List.getElem?_map, List.getElem?_eq_getElem hi]
          rfl
        refine ⟨_, rfl, _, rfl, a, _, _, .int r[i], rfl, rfl, SqT.of ha, at_of (j := i) (by omega) hg, _, rfl, _, rfl, b, _, _, .int r[i], rfl, rfl, SqT.of hb, at_of (j := i) (by omega) hg, r[i], rfl, true, rfl, iteF ?_⟩
        exact ⟨rfl, _, rfl⟩
      · rintro σ H1 ⟨rfl, o2, rfl⟩
        exact q
end
end K23
/-! Layers, what is carried, depth. -/
namespace K23
open PySem PySem.Spec PyProof.Rows L2
theorem same_written {a : Addr} {H H' : Hp} {o : HO} (k : Same H H') (h : H a = none) : Same H (upd H' a o) := fun b x e => by
  rw [upd_ne (ne_of_none e h)]
  exact k b x e
/-- parts and a lot, as the law hands them on -/
structure PL (H : Hp) (x l : V) (folk : Int) (hs : List (List Hd)) (lot : List Int) : Prop where
  parts : PartsAt H x folk hs
  lot : RowAt H l lot
  few : hs.length ≤ 12
  len : ∀ ds ∈ hs, ds.length ≤ 1000
theorem PL.ts {H H' : Hp} {x l : V} {folk : Int} {hs : List (List Hd)} {lot : List Int} (h : PL H x l folk hs lot) (k : TS H H') : PL H' x l folk hs lot := ⟨h.parts.ts k, h.lot.ts k, h.few, h.len⟩
theorem PL.get {H : Hp} {x l : V} {folk : Int} {hs : List (List Hd)} {lot : List Int} (h : PL H x l folk hs lot) {k : Int} (k0 : 0 ≤ k) (k1 : k < hs.length) : ∃ ds, hs[k.toNat]? = some ds ∧ ds.length ≤ 1000 := by
  have hl : k.toNat < hs.length := by omega
  exact ⟨_, List.getElem?_eq_getElem hl, h.len _ (List.getElem_mem hl)⟩
section
variable {P : Program} {w : World} {K : PySem.W.Frag} {mg : Str → Option Value} {base : Heap}
abbrev n_law_layers : List Str := ["_law_parts_here", "_law_lot_here", "_law_found", "_law_known", "_law_turn", "_law_fresh", "_law_k"]
theorem sc_law_layers : FnScope n_law_layers ["_law_parts_here", "_law_lot_here"] (defScope s_law_layers) := ⟨rfl, rfl, rfl, by decide +kernel, rfl, by decide +kernel, by decide +kernel⟩
def spLayers : Sp := fun vs H Q _ => ∃ (x l : V) (folk : Int) (hs : List (List Hd)) (lot : List Int), vs = [x, l] ∧ PL H x l folk hs lot ∧
  ∀ (F : Addr) (xs : List V) (L : List (List Int)) (H' : Hp), Same H H' → H F = none → H' F = some (.lst xs) → Paired (RowAt H') xs L → Lay hs.length (hfOf hs lot) L → Shut hs.length (hfOf hs lot) L.flatten → Q (.ref F) H'
theorem ok_law_layers (T : Txt K mg) (c_law_has_half : Cal CX0 P w K mg base 1 "_law_has_half" (spLHalf K)) (D : Df K mg "_law_layers" s_law_layers ["_law_parts_here", "_law_lot_here"]) : Cal CX0 P w K mg base 2 "_law_layers" spLayers := by
  refine D.cal sc_law_layers (fun vs H Q E h => ?_) (fun f cdv A outer s H vs Q E hr h => ?_)
  · obtain ⟨x, l, folk, hs, lot, rfl, _⟩ := h
    rfl
  · obtain ⟨x, l, folk, hs, lot, rfl, pl, q⟩ := h
    have nd := sc_law_layers.nd
    refine ⟨_, pss_cons (ps_set (i := 2) nd rfl (Or.inl rfl) (pe_lst pa_nil))
      (pss_cons (ps_set (i := 3) nd rfl (Or.inr rfl) (pe_lst pa_nil))
      (pss_cons (ps_for PassesOwn.never rfl (pi_range1 (by rfl) T.range (pa_cons (pe_callB call_len_seq (by rfl) T.len (by decide +kernel) (pa_cons (pe_ix ix_tup (pv 0) pe_int (fun _ _ => rfl)) pa_nil)) pa_nil)) (pg_name (i := 4) nd rfl (Or.inl rfl))
        (pss_cons (ps_setLc (i := 5) (own := [("_law_k", 6)]) (g := (gName 6)) rfl nd rfl rfl (sw_true rfl rfl rfl (by decide +kernel)) (pi_range1 (by rfl) T.range (pa_cons (pe_callB call_len_seq (by rfl) T.len (by decide +kernel) (pa_cons (pe_ix ix_tup (pv 0) pe_int (fun _ _ => rfl)) pa_nil)) pa_nil)) (blkOk_by (N := n_law_layers) (sc := defScope s_law_layers) (by decide +kernel)) (fun _ _ _ _ _ => (pg_name (i := 6) nd rfl (Or.inl rfl))) (fun _ _ _ _ _ => (pts_one (PW.pt (pw_and (pt_cmpR (op_notInK K) (pv 6) (pv 3) (by rfl)) (pw_and1 (pt_val (pe_cal c_law_has_half hr (by decide) (by rfl) (pa_cons (pv 0) (pa_cons (pv 6) (pa_cons (pv 1) (pa_cons (pv 3) pa_nil))))))))))) (fun _ _ _ _ _ => (pv 6)))
        (pss_cons (ps_if (pt_cmpR op_eq (pe_callB call_len_seq (by rfl) T.len (by decide +kernel) (pa_cons (pv 5) pa_nil)) pe_int (nomark _)) (pss_one ps_break) pss_nil)
        (pss_cons (ps_expr (pe_bm PySem.F.plainAttrs_list PySem.F.slot_list_append PySem.F.type_list_append mt_append (pv 2) (pa_cons (pe_callTy call_tuple_of (by rfl) T.tuple (by decide +kernel) (pa_cons (pv 5) pa_nil)) pa_nil)))
        (pss_one (ps_set (i := 3) nd rfl (Or.inr rfl) (pe_op op_cat (pv 3) (pv 5))))))))
      (pss_one (ps_ret (pv 2))))), ?_⟩
    obtain ⟨xa, wv, rfl, hx, wa, ws, rfl, hw, pw⟩ := id pl.parts
    have lw := pw.length
    have few := pl.few
    have m : Mono (hfOf hs lot) := hfOf_mono hs lot
    refine ⟨sz (by show 0 ≤ 1000000; omega), fun F nF => ⟨sz (by show 0 ≤ 1000000; omega), fun k0 nk0 => ?_⟩⟩
    have Fk : F ≠ k0 := ne_of_none upd_same nk0
    have nk : H k0 = none := by
      rw [upd_ne Fk.symm] at nk0
      exact nk0
    have sm0 : Same H (upd (upd H F (.lst [])) k0 (.lst [])) := same_written (same_upd nF) nk
    have g1 : upd (upd H F (.lst [])) k0 (.lst []) F = some (.lst []) := by rw [upd_ne Fk, upd_same]
    have g2 : upd (upd H F (.lst [])) k0 (.lst []) k0 = some (.lst []) := upd_same
    generalize upd (upd H F (.lst [])) k0 (.lst []) = H0 at sm0 g1 g2 ⊢
    have fin : ∀ (σ : L2.St) (H' : Hp) xs L, σ[2]? = some (some (.ref F)) → Same H H' → H' F = some (.lst xs) → Paired (RowAt H') xs L → Lay hs.length (hfOf hs lot) L → Shut hs.length (hfOf hs lot) L.flatten → tRet (tVar 2) { nx := fun _ H' => Q .non H', rt := Q } σ H' := fun σ H' xs L e sm hF pr A sh => ⟨_, e, q F xs L H' sm nF hF pr A sh⟩
    refine ⟨_, rfl, xa, _, 1, .ref wa, rfl, rfl, SqT.of (sm0 _ _ hx), atI_nat (j := 1) rfl, wa, ws, rfl, .inr (SqT.of (sm0 _ _ hw)), _, rfl, by omega, by omega, for_range (lo := 0) (n := (ws.length : Int).toNat) (fun i σ H' => ∃ kn o4 o5 xs L, σ = [some (.ref xa), some l, some (.ref F), some (.ref kn), o4, o5, none] ∧
      Same H H' ∧ H kn = none ∧ F ≠ kn ∧ H' F = some (.lst xs) ∧ Paired (RowAt H') xs L ∧ H' kn = some (.lst (L.flatten.map V.int)) ∧ Lay hs.length (hfOf hs lot) L ∧ L.length ≤ i ∧ i ≤ L.flatten.length) ?_ ?_ ?_⟩
    · exact ⟨k0, _, _, [], [], rfl, sm0, nk, Fk, g1, .nil, g2, .zero, Nat.le_refl _, Nat.le_refl _⟩
    · rintro i σ H' hi ⟨kn, o4, o5, xs, L, rfl, sm, nkn, Fkn, hF, pr, hkn, A, l1, l2⟩
      rw [Int.toNat_natCast] at hi
      -- the fresh ones
      refine ⟨_, rfl, xa, _, 1, .ref wa, rfl, rfl, SqT.of (sm _ _ hx), atI_nat (j := 1) rfl, wa, ws, rfl, .inr (SqT.of (sm _ _ hw)), _, rfl, by omega, by omega, fun o no => ?_⟩
      have big := sizeBig
      have nk2 : kn ≠ o := ne_of_none hkn no
      have nF2 : F ≠ o := ne_of_none hF no
      refine lc_range (lo := 0) (n := (ws.length : Int).toNat) (fun j H1 => Same H' H1 ∧ H1 o = some (.lst ((((upto hs.length).take j).filter fun k => !decide (k ∈ L.flatten) && hfOf hs lot k L.flatten).map V.int))) ⟨same_upd no, by rw [upd_same]; rfl⟩ ?_ ?_
      · rintro j H1 hj ⟨sm1, ho⟩
        rw [Int.toNat_natCast] at hj
        have ft := filter_take (fun k => !decide (k ∈ L.flatten) && hfOf hs lot k L.flatten) (upto hs.length) j (j : Int) (get_upto (by omega))
        have small : (((upto hs.length).take j).filter fun k => !decide (k ∈ L.flatten) && hfOf hs lot k L.flatten).length ≤ j := Nat.le_trans (List.length_filter_le _ _) (List.length_take_le _ _)
        rw [Int.zero_add]
        refine ⟨rfl, _, rfl, _, rfl, notin_ints (.inl (SqL.of (sm1 _ _ hkn))) ⟨_, rfl, ite2 (fun e => ?_) (fun e => ?_)⟩⟩
        · have pl1 := pl.ts (TS.of (sm.trans sm1))
          obtain ⟨ds, hd1, hd2⟩ := pl1.get (k := (j : Int)) (by omega) (by omega)
          refine ⟨_, rfl, _, rfl, _, rfl, _, rfl, _, _, _, folk, (j : Int), hs, lot, L.flatten, ds, rfl, pl1.parts, pl1.lot, ⟨kn, rfl, .inl (SqL.of (sm1 _ _ hkn))⟩, by omega, hd1, hd2, fun H2 sm2 => ⟨_, rfl, ite2 (fun e2 => ?_) (fun e2 => ?_)⟩⟩
          · refine ⟨_, rfl, _, sm2 _ _ ho, ?_, same_written (sm1.trans sm2) no, ?_⟩
            · rw [List.length_map]
              omega
            · rw [upd_same, ft, if_pos (by rw [e, e2]; rfl), List.map_append]
              rfl
          · refine ⟨sm1.trans sm2, ?_⟩
            rw [ft, if_neg (by rw [Bool.and_eq_true]; exact fun z => e2 z.2)]
            exact sm2 _ _ ho
        · refine ⟨sm1, ?_⟩
          rw [ft, if_neg (by rw [Bool.and_eq_true]; exact fun z => e z.1)]
          exact ho
      · rintro H1 ⟨sm1, ho⟩
        have ef : ((upto hs.length).take (ws.length : Int).toNat) = upto hs.length := by
          rw [Int.toNat_natCast, List.take_of_length_le]
          rw [length_upto]
          omega
        rw [ef] at ho
        have ho : H1 o = some (.lst ((fresh hs.length (hfOf hs lot) L.flatten).map V.int)) := ho
        have lf : (fresh hs.length (hfOf hs lot) L.flatten).length ≤ hs.length := nodup_length _ _ nodup_fresh fun k hk => ⟨(mem_fresh.mp hk).1, (mem_fresh.mp hk).2.1⟩
        have lfl : L.flatten.length ≤ hs.length := A.row.length_le
        refine ⟨_, rfl, o, _, rfl, .inl (SqL.of ho), rfl, _, rfl, ite2 (fun e => ?_) (fun e => ?_)⟩
        · -- no fresh one
          have e := of_decide_eq_true e
          have e0 : fresh hs.length (hfOf hs lot) L.flatten = [] := by
            have := V.int.inj e
            rw [List.length_map] at this
            exact List.length_eq_zero_iff.mp (by omega)
          exact fin _ H1 xs L rfl (sm.trans sm1) (sm1 _ _ hF) (paired_ts (fun _ _ q => q.ts (TS.of sm1)) pr) A (shut_fresh e0)
        · have e1 : 0 < (fresh hs.length (hfOf hs lot) L.flatten).length := by
            rcases Nat.eq_zero_or_pos (fresh hs.length (hfOf hs lot) L.flatten).length with z | z
            · exfalso
              apply e
              rw [List.length_map, z]
              rfl
            · exact z
          refine ⟨_, rfl, .inl ⟨rfl, _, SqL.of (sm1 _ _ hF)⟩, _, rfl, o, _, rfl, .inl ⟨SqL.of ho, fun t nt => ?_⟩⟩
          have Ft : F ≠ t := ne_of_none (sm1 _ _ hF) nt
          have gt : upd H1 t (.tup ((fresh hs.length (hfOf hs lot) L.flatten).map V.int)) t = some (.tup ((fresh hs.length (hfOf hs lot) L.flatten).map V.int)) := upd_same
          have smt : Same H1 (upd H1 t (.tup ((fresh hs.length (hfOf hs lot) L.flatten).map V.int))) := same_upd nt
          generalize upd H1 t (.tup ((fresh hs.length (hfOf hs lot) L.flatten).map V.int)) = H2 at gt smt ⊢
          have hF2 := smt _ _ (sm1 _ _ hF)
          have hk2 := smt _ _ (sm1 _ _ hkn)
          have ho2 := smt _ _ ho
          have oF : o ≠ F := nF2.symm
          refine ⟨F, xs, .ref t, rfl, rfl, hF2, ?_, ?_⟩
          · have := pr.length
            omega
          have smA : Same H (upd H2 F (.lst (xs ++ [.ref t]))) := same_written ((sm.trans sm1).trans smt) nF
          have tsA : TS H' (upd H2 F (.lst (xs ++ [.ref t]))) := (TS.of (sm1.trans smt)).trans (TS.lst hF2)
          have hkA : upd H2 F (.lst (xs ++ [.ref t])) kn = some (.lst (L.flatten.map V.int)) := by rw [upd_ne Fkn.symm]; exact hk2
          have hoA : upd H2 F (.lst (xs ++ [.ref t])) o = some (.lst ((fresh hs.length (hfOf hs lot) L.flatten).map V.int)) := by rw [upd_ne oF]; exact ho2
          have gFA : upd H2 F (.lst (xs ++ [.ref t])) F = some (.lst (xs ++ [.ref t])) := upd_same
          have gtA : upd H2 F (.lst (xs ++ [.ref t])) t = some (.tup ((fresh hs.length (hfOf hs lot) L.flatten).map V.int)) := by rw [upd_ne Ft.symm]; exact gt
          generalize upd H2 F (.lst (xs ++ [.ref t])) = H3 at smA tsA hkA hoA gFA gtA ⊢
          refine ⟨_, rfl, _, rfl, kn, o, _, _, rfl, rfl, hkA, hoA, ?_, fun k2 n2 => ?_⟩
          · rw [List.length_map, List.length_map]
            omega
          have nH : H k2 = none := by
            cases z : H k2 with
            | none => rfl
            | some y => rw [smA _ _ z] at n2; cases n2
          refine ⟨k2, _, _, xs ++ [.ref t], L ++ [fresh hs.length (hfOf hs lot) L.flatten], rfl, smA.trans (same_upd n2), nH, ne_of_none gFA n2, (same_upd n2) _ _ gFA, paired_snoc (paired_ts (fun _ _ q => q.ts (tsA.trans (TS.upd n2))) pr) ⟨t, rfl, (same_upd n2) _ _ gtA⟩, ?_, A.snoc m e1 nodup_fresh (fun k => mem_fresh), ?_, ?_⟩
          · rw [upd_same, List.flatten_append, List.map_append]
            simp
          · rw [List.length_append, List.length_singleton]
            omega
          · rw [List.flatten_append, List.length_append, List.flatten_cons, List.flatten_nil, List.append_nil]
            omega
    · rintro σ H' ⟨kn, o4, o5, xs, L, rfl, sm, nkn, Fkn, hF, pr, hkn, A, l1, l2⟩
      rw [Int.toNat_natCast] at l1 l2
      exact fin _ H' xs L rfl sm hF pr A (shut_full A.row (by omega))
abbrev n_law_carried : List Str := ["_law_parts_here", "_law_lot_here", "_law_found", "_law_layer"]
theorem sc_law_carried : FnScope n_law_carried ["_law_parts_here", "_law_lot_here"] (defScope s_law_carried) := ⟨rfl, rfl, rfl, by decide +kernel, rfl, by decide +kernel, by decide +kernel⟩
/-- what is carried: only that it is a list -/
def spCarried : Sp := fun vs H Q _ => ∃ (x l : V) (folk : Int) (hs : List (List Hd)) (lot : List Int), vs = [x, l] ∧ PL H x l folk hs lot ∧ ∀ (a : Addr) (xs : List V) (H' : Hp), Same H H' → H' a = some (.lst xs) → Q (.ref a) H'
theorem ok_law_carried (T : Txt K mg) (c_law_layers : Cal CX0 P w K mg base 2 "_law_layers" spLayers) (D : Df K mg "_law_carried" s_law_carried ["_law_parts_here", "_law_lot_here"]) : Cal CX0 P w K mg base 3 "_law_carried" spCarried := by
  refine D.cal sc_law_carried (fun vs H Q E h => ?_) (fun f cdv A outer s H vs Q E hr h => ?_)
  · obtain ⟨x, l, folk, hs, lot, rfl, _⟩ := h
    rfl
  · obtain ⟨x, l, folk, hs, lot, rfl, pl, q⟩ := h
    have hu6 := hu60 hr
    have nd := sc_law_carried.nd
    refine ⟨_, pss_cons (ps_set (i := 2) nd rfl (Or.inl rfl) (pe_lst pa_nil))
      (pss_cons (ps_for PassesOwn.never rfl (pi_list (pe_cal c_law_layers hr (by decide) (by rfl) (pa_cons (pv 0) (pa_cons (pv 1) pa_nil)))) (pg_name (i := 3) nd rfl (Or.inl rfl))
        (pss_one (ps_set (i := 2) nd rfl (Or.inl rfl) (pe_op op_cat (pv 2) (pe_callTy call_list_of (by rfl) T.list (by decide +kernel) (pa_cons (pv 3) pa_nil))))))
      (pss_one (ps_ret (pe_callB (cr_sortIT hu6) (by rfl) T.sorted (by decide +kernel) (pa_cons (pv 2) pa_nil))))), ?_⟩
    refine ⟨sz (by show 0 ≤ 1000000; omega), fun F nF => ?_⟩
    refine ⟨_, rfl, _, rfl, x, l, folk, hs, lot, rfl, pl.ts (TS.upd nF), fun G xs L H1 sm nG hG pr A sh => ?_⟩
    have lfl : L.flatten.length ≤ hs.length := A.row.length_le
    have few := pl.few
    have big := sizeBig
    have nG0 : H G = none := by
      by_cases e : G = F
      · rw [e, upd_same] at nG
        cases nG
      · rwa [upd_ne e] at nG
    have sm1 : Same H H1 := (same_upd nF).trans sm
    have hF := sm _ _ (upd_same (a := F) (H := H) (o := .lst []))
    refine ⟨G, rfl, ⟨_, SqL.of hG⟩, for_list (a := G) (xs := xs) (fun i σ H2 => ∃ kn o3, σ = [some x, some l, some (.ref kn), o3] ∧ Same H1 H2 ∧ H2 kn = some (.lst ((L.take i).flatten.map V.int))) ?_ (fun i σ H2 _ ⟨_, _, _, e, _⟩ => SqL.of (e _ _ hG)) ?_ ?_⟩
    · exact ⟨F, _, rfl, fun _ _ e => e, hF⟩
    · rintro i x' σ H2 hi ⟨kn, o3, rfl, sm2, hkn⟩
      obtain ⟨r, hr1, t, rfl, ht⟩ := paired_at pr hi
      refine ⟨_, rfl, _, rfl, t, _, rfl, .inr (SqT.of (sm2 _ _ ht)), fun b nb => ?_⟩
      have lr : r.length ≤ L.flatten.length := by
        have : (r :: []).flatten.length ≤ L.flatten.length := by
          have h1 := List.getElem?_eq_some_iff.mp hr1
          have : r ∈ L := List.mem_of_getElem? hr1
          rw [List.flatten_cons, List.flatten_nil, List.append_nil]
          exact List.Sublist.length_le (List.sublist_flatten_of_mem this)
        simpa using this
      have lt : (L.take i).flatten.length ≤ L.flatten.length := by
        have e : L.flatten = (L.take i).flatten ++ (L.drop i).flatten := by rw [← List.flatten_append, List.take_append_drop]
        rw [e, List.length_append]
        omega
      refine ⟨kn, b, _, _, rfl, rfl, (same_upd nb) _ _ hkn, upd_same, ?_, fun k2 n2 => ?_⟩
      · rw [List.length_map, List.length_map]
        omega
      · refine ⟨k2, _, rfl, sm2.trans ((same_upd nb).trans (same_upd n2)), ?_⟩
        rw [upd_same, List.take_add_one, hr1, List.flatten_append, List.map_append]
        simp
    · rintro σ H2 ⟨kn, o3, rfl, sm2, hkn⟩
      refine ⟨_, rfl, kn, _, rfl, .inl (SqL.of hkn), ?_, fun ms p np pm asc => q p _ _ ((sm1.trans sm2).trans (same_upd np)) upd_same⟩
      have lt : (L.take xs.length).flatten.length ≤ L.flatten.length := by
        have e : L.flatten = (L.take xs.length).flatten ++ (L.drop xs.length).flatten := by rw [← List.flatten_append, List.take_append_drop]
        rw [e, List.length_append]
        omega
      omega
abbrev n_law_depth : List Str := ["_law_parts_here", "_law_lot_here", "_law_house", "_law_layers_here", "_law_k"]
theorem sc_law_depth : FnScope n_law_depth ["_law_parts_here", "_law_lot_here", "_law_house"] (defScope s_law_depth) := ⟨rfl, rfl, rfl, by decide +kernel, rfl, by decide +kernel, by decide +kernel⟩
def spDepth : Sp := fun vs H Q _ => ∃ (x l : V) (folk : Int) (hs : List (List Hd)) (lot : List Int) (h : Int), vs = [x, l, .int h] ∧ PL H x l folk hs lot ∧ ∀ (d : Int) (H' : Hp), Same H H' → DepthIs hs.length (hfOf hs lot) h d → Q (.int d) H'
theorem ok_law_depth (T : Txt K mg) (c_law_layers : Cal CX0 P w K mg base 2 "_law_layers" spLayers) (D : Df K mg "_law_depth" s_law_depth ["_law_parts_here", "_law_lot_here", "_law_house"]) : Cal CX0 P w K mg base 3 "_law_depth" spDepth := by
  refine D.cal sc_law_depth (fun vs H Q E h => ?_) (fun f cdv A outer s H vs Q E hr h => ?_)
  · obtain ⟨x, l, folk, hs, lot, h, rfl, _⟩ := h
    rfl
  · obtain ⟨x, l, folk, hs, lot, h, rfl, pl, q⟩ := h
    have nd := sc_law_depth.nd
    refine ⟨_, pss_cons (ps_set (i := 3) nd rfl (Or.inl rfl) (pe_cal c_law_layers hr (by decide) (by rfl) (pa_cons (pv 0) (pa_cons (pv 1) pa_nil))))
      (pss_cons (ps_for PassesOwn.never rfl (pi_range1 (by rfl) T.range (pa_cons (pe_callB call_len_seq (by rfl) T.len (by decide +kernel) (pa_cons (pv 3) pa_nil)) pa_nil)) (pg_name (i := 4) nd rfl (Or.inl rfl))
        (pss_one (ps_if (pt_cmpR op_in_seq (pv 2) (pe_ix ix_list (pv 3) (pv 4) (fun _ _ => rfl)) (by rfl)) (pss_one (ps_ret (pv 4))) pss_nil)))
      (pss_one (ps_ret (pe_un un_neg pe_int)))), ?_⟩
    have m : Mono (hfOf hs lot) := hfOf_mono hs lot
    refine ⟨_, rfl, _, rfl, x, l, folk, hs, lot, rfl, pl, fun G xs L H1 sm nG hG pr A sh => ?_⟩
    have lp := pr.length
    have lL : L.length ≤ hs.length := Nat.le_trans A.few A.row.length_le
    have few := pl.few
    refine ⟨_, rfl, G, xs, rfl, .inl (SqL.of hG), _, rfl, by omega, by omega, for_range (lo := 0) (n := (xs.length : Int).toNat) (fun i σ H2 => H2 = H1 ∧ (∃ o4, σ = [some x, some l, some (.int h), some (.ref G), o4]) ∧ ∀ (j : Nat) (l' : List Int), j < i → L[j]? = some l' → h ∉ l') ?_ ?_ ?_⟩
    · exact ⟨rfl, ⟨_, rfl⟩, fun j l' h => absurd h (Nat.not_lt_zero j)⟩
    · rintro i σ H2 hi ⟨rfl, ⟨o4, rfl⟩, no⟩
      rw [Int.toNat_natCast] at hi
      obtain ⟨y, r, hy, hr1, hm, t, rfl, ht⟩ := paired_mem pr hi
      refine ⟨_, rfl, _, rfl, _, rfl, G, xs, _, .ref t, rfl, rfl, SqL.of hG, at_of (j := i) (by omega) hy, in_ints (.inr (SqT.of ht)) ⟨_, rfl, ite2 (fun e => ?_) (fun e => ?_)⟩⟩
      · refine ⟨_, rfl, q _ _ sm ?_⟩
        rw [Int.zero_add]
        exact A.depth m sh hr1 (of_decide_eq_true e) no
      · refine ⟨rfl, ⟨_, rfl⟩, fun j l' hj hl => ?_⟩
        by_cases ej : j = i
        · subst ej
          rw [hr1] at hl
          rw [← Option.some.inj hl]
          exact fun z => e (decide_eq_true z)
        · exact no j l' (by omega) hl
    · rintro σ H2 ⟨rfl, ⟨o4, rfl⟩, no⟩
      refine ⟨1, rfl, q _ _ sm (.inl ⟨rfl, A.never m sh fun l' hl' z => ?_⟩)⟩
      obtain ⟨j, hj⟩ := List.mem_iff_getElem?.mp hl'
      have := (List.getElem?_eq_some_iff.mp hj).1
      exact no j l' (by omega) hj z
end
end K23
/-! The faults of a row; the least row, listed. -/
namespace K23
open PySem PySem.Spec PyProof.Rows L2
theorem IsRow.at {N : Nat} {hf : Int → List Int → Bool} {r : List Int} (h : IsRow N hf r) {i : Nat} {k : Int} (e : r[i]? = some k) : 0 ≤ k ∧ k < N ∧ k ∉ r.take i ∧ hf k (r.take i) = true := by
  have q : IsRow N hf (r.take (i + 1) ++ r.drop (i + 1)) := by rw [List.take_append_drop]; exact h
  have q1 := IsRow.pre rfl q
  rw [List.take_add_one, e] at q1
  exact q1.inv.2
theorem cut_take (ns : List Int) {k : Nat} (h : k ≤ ns.length) : cutV (ns.map V.int) none (some (k : Int)) = (ns.take k).map V.int := by
  unfold cutV
  rw [HT.sIx_none, HT.sIx_nat, List.length_map, List.drop_zero, Nat.sub_zero, Nat.min_eq_left h, List.map_take]
theorem cut_part {n k : Nat} (h : k < n) : ¬ (HT.sIx n 0 none = 0 ∧ HT.sIx n n (some (k : Int)) = n) := by
  rw [HT.sIx_nat]
  omega
theorem at_last {xs : List V} {n : Nat} {v : V} (hn : xs.length = n + 1) (h : xs[n]? = some v) : atI xs (-1) = some v := by
  have : ixN xs.length (-1) = some n := by
    unfold ixN
    rw [if_neg (by decide), if_pos (by omega)]
    congr 1
    omega
  unfold atI
  rw [this]
  exact h
/-- what is told of the shortest row -/
def Ans (H : Hp) (x : V) (N : Nat) (hf : Int → List Int → Bool) (h : Int) : Prop := (x = .non ∧ Never N hf h) ∨ ∃ r, RowAt H x r ∧ Best N hf h r
theorem cat_row {K : PySem.W.Frag} {H : Hp} {a b : Addr} {r : List Int} {k : Int} {Q : VK} (ha : H a = some (.tup (r.map V.int))) (hb : H b = some (.tup [.int k])) (hl : r.length ≤ 1000)
    (q : ∀ x H', Same H H' → RowAt H' x (r ++ [k]) → Q x H') : rCatA K (.ref a) (.ref b) H Q := by
  refine ⟨a, b, _, _, rfl, rfl, SqT.of ha, SqT.of hb, sz (by rw [List.length_map]; show r.length + 1 ≤ 1000000; omega), fun e => ?_, fun _ e => (nomatch e), fun _ _ p np => ?_⟩
  · have e : r = [] := List.map_eq_nil_iff.mp e
    subst e
    exact q _ _ (fun _ _ z => z) ⟨b, rfl, hb⟩
  · refine q _ _ (same_upd np) ⟨p, rfl, ?_⟩
    rw [upd_same, List.map_append]
    rfl
theorem endsIn_snoc (h k : Int) (r : List Int) : endsIn h (r ++ [k]) = decide (V.int k = V.int h) := by
  unfold endsIn
  rw [List.getLast?_concat]
  by_cases e : k = h
  · rw [e, decide_eq_true rfl, decide_eq_true rfl]
  · rw [decide_eq_false (fun z => e (Option.some.inj z)), decide_eq_false (fun z => e (V.int.inj z))]
section
variable {P : Program} {w : World} {K : PySem.W.Frag} {mg : Str → Option Value} {base : Heap}
abbrev n_law_row_fault : List Str := ["_law_parts_here", "_law_lot_here", "_law_house", "_law_thing", "_law_other", "_law_k"]
theorem sc_law_row_fault : FnScope n_law_row_fault ["_law_parts_here", "_law_lot_here", "_law_house", "_law_thing"] (defScope s_law_row_fault) := ⟨rfl, rfl, rfl, by decide +kernel, rfl, by decide +kernel, by decide +kernel⟩
/-- a right row has no fault -/
def spFault : Sp := fun vs H Q _ => ∃ (x l y : V) (folk : Int) (hs : List (List Hd)) (lot : List Int) (h : Int) (r : List Int), vs = [x, l, .int h, y] ∧ PL H x l folk hs lot ∧ RowAt H y r ∧ IsRow hs.length (hfOf hs lot) r ∧ Ends r h ∧ ∀ H', Same H H' → Q .non H'
theorem ok_law_row_fault (T : Txt K mg) (c_law_integer : Cal CX0 P w K mg base 1 "_law_integer" spIsInt) (c_law_has_half : Cal CX0 P w K mg base 1 "_law_has_half" (spLHalf K)) (D : Df K mg "_law_row_fault" s_law_row_fault ["_law_parts_here", "_law_lot_here", "_law_house", "_law_thing"]) : Cal CX0 P w K mg base 2 "_law_row_fault" spFault := by
  refine D.cal sc_law_row_fault (fun vs H Q E h => ?_) (fun f cdv A outer s H vs Q E hr h => ?_)
  · obtain ⟨x, l, y, folk, hs, lot, h, r, rfl, _⟩ := h
    rfl
  · obtain ⟨x, l, y, folk, hs, lot, h, r, rfl, pl, ⟨a, rfl, ha⟩, hrow, hend, q⟩ := h
    have nd := sc_law_row_fault.nd
    refine ⟨_, pss_cons (ps_if (PW.pt (pw_or (pt_not (pt_val (pe_callB (call_isB "tuple") (by rfl) T.isinstance (by decide +kernel) (pa_cons (pv 3) (pa_cons (pe_ty "tuple" rfl T.tuple (by decide +kernel)) pa_nil))))) (pw_or1 (pt_cmpR op_eq (pe_callB call_len_seq (by rfl) T.len (by decide +kernel) (pa_cons (pv 3) pa_nil)) pe_int (nomark _))))) (pss_one (ps_ret (pe_tup (pa_cons pe_str pa_nil)))) pss_nil)
      (pss_cons (ps_for PassesOwn.never rfl (pi_tup (pv 3)) (pg_name (i := 4) nd rfl (Or.inl rfl))
        (pss_one (ps_if (PW.pt (pw_or (pt_not (pt_val (pe_cal c_law_integer hr (by decide) (by rfl) (pa_cons (pv 4) pa_nil)))) (pw_or (pt_cmpR op_lt (pv 4) pe_int (nomark _)) (pw_or1 (pt_cmpR op_ge (pv 4) (pe_callB call_len_seq (by rfl) T.len (by decide +kernel) (pa_cons (pe_ix ix_tup (pv 0) pe_int (fun _ _ => rfl)) pa_nil)) (nomark _)))))) (pss_one (ps_ret (pe_tup (pa_cons pe_str pa_nil)))) pss_nil)))
      (pss_cons (ps_for PassesOwn.never rfl (pi_range1 (by rfl) T.range (pa_cons (pe_callB call_len_seq (by rfl) T.len (by decide +kernel) (pa_cons (pv 3) pa_nil)) pa_nil)) (pg_name (i := 5) nd rfl (Or.inl rfl))
        (pss_one (ps_if (pt_cmpR op_in_seq (pe_ix ix_tup (pv 3) (pv 5) (fun _ _ => rfl)) (pe_slice sl_tup (pv 3) po_none (po_some (pv 5))) (by rfl)) (pss_one (ps_ret (pe_tup (pa_cons pe_str (pa_cons (pv 5) pa_nil))))) pss_nil)))
      (pss_cons (ps_for PassesOwn.never rfl (pi_range1 (by rfl) T.range (pa_cons (pe_callB call_len_seq (by rfl) T.len (by decide +kernel) (pa_cons (pv 3) pa_nil)) pa_nil)) (pg_name (i := 5) nd rfl (Or.inl rfl))
        (pss_one (ps_if (pt_not (pt_val (pe_cal c_law_has_half hr (by decide) (by rfl) (pa_cons (pv 0) (pa_cons (pe_ix ix_tup (pv 3) (pv 5) (fun _ _ => rfl)) (pa_cons (pv 1) (pa_cons (pe_slice sl_tup (pv 3) po_none (po_some (pv 5))) pa_nil))))))) (pss_one (ps_ret (pe_tup (pa_cons pe_str (pa_cons (pv 5) pa_nil))))) pss_nil)))
      (pss_cons (ps_if (pt_cmpR op_ne (pe_ix ix_tup (pv 3) (pe_un un_neg pe_int) (fun _ _ => rfl)) (pv 2) (nomark _)) (pss_one (ps_ret (pe_tup (pa_cons pe_str pa_nil)))) pss_nil)
      (pss_one (ps_ret pe_non)))))), ?_⟩
    obtain ⟨xa, wv, rfl, hx, wa, ws, rfl, hw, pw⟩ := id pl.parts
    have lw := pw.length
    have few := pl.few
    have big := sizeBig
    have lr := hrow.length_le
    obtain ⟨r', e⟩ := hend
    have pos : 0 < r.length := by rw [e, List.length_append, List.length_singleton]; omega
    refine ⟨_, rfl, _, _, _, rfl, ty_tup ha, kb_tuple_tuple, true, rfl, iteF ⟨_, rfl, a, _, rfl, .inr (SqT.of ha), rfl, _, rfl, ite2 (fun z => ?_) (fun _ => ?_)⟩⟩
    · have z := V.int.inj (of_decide_eq_true z)
      rw [List.length_map] at z
      omega
    -- each is a house
    refine ⟨_, rfl, a, rfl, ⟨_, SqT.of ha⟩, for_tup (a := a) (xs := r.map V.int) (fun i σ H1 => H1 = H ∧ ∃ o4, σ = [some (.ref xa), some l, some (.int h), some (.ref a), o4, none]) ⟨rfl, _, rfl⟩ (fun i σ H1 _ ⟨z, _⟩ => by rw [z]; exact SqT.of ha) ?_ ?_⟩
    · rintro i x σ H1 hi ⟨rfl, o4, rfl⟩
      rw [List.getElem?_map] at hi
      obtain ⟨k, hk, rfl⟩ := Option.map_eq_some_iff.mp hi
      obtain ⟨b0, b1, _, _⟩ := hrow.at hk
      refine ⟨_, rfl, k, rfl, true, rfl, iteF ⟨_, rfl, _, _, rfl, rfl, _, rfl, ?_⟩⟩
      rw [decide_eq_false (by omega)]
      refine iteF ⟨_, rfl, _, rfl, xa, _, 1, .ref wa, rfl, rfl, SqT.of hx, atI_nat (j := 1) rfl, wa, ws, rfl, .inr (SqT.of hw), _, _, rfl, rfl, _, rfl, ?_⟩
      rw [decide_eq_false (by omega)]
      exact iteF ⟨rfl, _, rfl⟩
    rintro σ H1 ⟨rfl, o4, rfl⟩
    -- none twice
    refine ⟨_, rfl, a, _, rfl, .inr (SqT.of ha), _, rfl, by omega, by rw [List.length_map]; omega, for_range (lo := 0) (n := ((r.map V.int).length : Int).toNat) (fun i σ H2 => Same H1 H2 ∧ ∃ o5, σ = [some (.ref xa), some l, some (.int h), some (.ref a), o4, o5]) ⟨fun _ _ e => e, _, rfl⟩ ?_ ?_⟩
    · rintro i σ H2 hi ⟨sm, o5, rfl⟩
      rw [Int.toNat_natCast, List.length_map] at hi
      have hg : r[i]? = some r[i] := List.getElem?_eq_getElem hi
      have hgv : (r.map V.int)[i]? = some (.int r[i]) := by rw [List.getElem?_map, hg]; rfl
      obtain ⟨b0, b1, b2, b3⟩ := hrow.at hg
      rw [Int.zero_add]
      refine ⟨_, rfl, _, rfl, a, _, _, .int r[i], rfl, rfl, SqT.of (sm _ _ ha), at_of (j := i) rfl hgv, _, rfl, _, rfl, i, rfl, a, _, rfl, SqT.of (sm _ _ ha), cut_part (by rw [List.length_map]; exact hi), fun t nt => ?_⟩
      rw [cut_take r (by omega)]
      refine in_ints (.inr (SqT.of upd_same)) ⟨_, rfl, ?_⟩
      rw [decide_eq_false b2]
      exact iteF ⟨sm.trans (same_upd nt), _, rfl⟩
    rintro σ H2 ⟨sm, o5, rfl⟩
    -- each has half
    have ha2 := sm _ _ ha
    refine ⟨_, rfl, a, _, rfl, .inr (SqT.of ha2), _, rfl, by omega, by rw [List.length_map]; omega, for_range (lo := 0) (n := ((r.map V.int).length : Int).toNat) (fun i σ H3 => Same H1 H3 ∧ ∃ o5, σ = [some (.ref xa), some l, some (.int h), some (.ref a), o4, o5]) ⟨sm, _, rfl⟩ ?_ ?_⟩
    · rintro i σ H3 hi ⟨sm3, o5, rfl⟩
      rw [Int.toNat_natCast, List.length_map] at hi
      have hg : r[i]? = some r[i] := List.getElem?_eq_getElem hi
      have hgv : (r.map V.int)[i]? = some (.int r[i]) := by rw [List.getElem?_map, hg]; rfl
      obtain ⟨b0, b1, b2, b3⟩ := hrow.at hg
      rw [Int.zero_add]
      refine ⟨_, rfl, _, rfl, _, rfl, a, _, _, .int r[i], rfl, rfl, SqT.of (sm3 _ _ ha), at_of (j := i) rfl hgv, _, rfl, _, rfl, _, rfl, i, rfl, a, _, rfl, SqT.of (sm3 _ _ ha), cut_part (by rw [List.length_map]; exact hi), fun t nt => ?_⟩
      rw [cut_take r (by omega)]
      have pl4 := pl.ts (TS.of (sm3.trans (same_upd (o := .tup ((r.take i).map V.int)) nt)))
      obtain ⟨ds, hd1, hd2⟩ := pl4.get b0 b1
      refine ⟨_, _, _, folk, r[i], hs, lot, r.take i, ds, rfl, pl4.parts, pl4.lot, ⟨t, rfl, .inr (SqT.of upd_same)⟩, b0, hd1, hd2, fun H5 sm5 => ?_⟩
      rw [b3]
      exact ⟨true, rfl, iteF ⟨(sm3.trans (same_upd nt)).trans sm5, _, rfl⟩⟩
    rintro σ H3 ⟨sm3, o5, rfl⟩
    -- the end
    have hl : (r.map V.int)[r'.length]? = some (.int h) := by
      rw [e, List.getElem?_map]
      simp
    refine ⟨_, rfl, 1, rfl, a, _, _, .int h, rfl, rfl, SqT.of (sm3 _ _ ha), at_last (n := r'.length) (by rw [e]; simp) hl, _, rfl, rfl, _, rfl, ?_⟩
    rw [decide_eq_true rfl]
    exact iteF (q H3 sm3)
abbrev n_law_least_row : List Str := ["_law_parts_here", "_law_lot_here", "_law_house", "_law_found", "_law_turn", "_law_longer", "_law_way", "_law_ready", "_law_k"]
theorem sc_law_least_row : FnScope n_law_least_row ["_law_parts_here", "_law_lot_here", "_law_house"] (defScope s_law_least_row) := ⟨rfl, rfl, rfl, by decide +kernel, rfl, by decide +kernel, by decide +kernel⟩
def spLeast : Sp := fun vs H Q _ => ∃ (x l : V) (folk : Int) (hs : List (List Hd)) (lot : List Int) (h : Int), vs = [x, l, .int h] ∧ PL H x l folk hs lot ∧ hs.length ≤ 5 ∧ ∀ (y : V) (H' : Hp), Same H H' → Ans H' y hs.length (hfOf hs lot) h → Q y H'
theorem ok_law_least_row (T : Txt K mg) (c_law_has_half : Cal CX0 P w K mg base 1 "_law_has_half" (spLHalf K)) (D : Df K mg "_law_least_row" s_law_least_row ["_law_parts_here", "_law_lot_here", "_law_house"]) : Cal CX0 P w K mg base 2 "_law_least_row" spLeast := by
  refine D.cal sc_law_least_row (fun vs H Q E h => ?_) (fun f cdv A outer s H vs Q E hr h => ?_)
  · obtain ⟨x, l, folk, hs, lot, h, rfl, _⟩ := h
    rfl
  · obtain ⟨x, l, folk, hs, lot, h, rfl, pl, five, q⟩ := h
    have hu6 := hu60 hr
    have nd := sc_law_least_row.nd
    refine ⟨_, pss_cons (ps_set (i := 3) nd rfl (Or.inl rfl) (pe_lst (pa_cons (pe_tup pa_nil) pa_nil)))
      (pss_cons (ps_for PassesOwn.never rfl (pi_range1 (by rfl) T.range (pa_cons (pe_callB call_len_seq (by rfl) T.len (by decide +kernel) (pa_cons (pe_ix ix_tup (pv 0) pe_int (fun _ _ => rfl)) pa_nil)) pa_nil)) (pg_name (i := 4) nd rfl (Or.inl rfl))
        (pss_cons (ps_set (i := 5) nd rfl (Or.inl rfl) (pe_lst pa_nil))
        (pss_cons (ps_for PassesOwn.never rfl (pi_list (pv 3)) (pg_name (i := 6) nd rfl (Or.inr rfl))
          (pss_one (ps_set (i := 5) nd rfl (Or.inl rfl) (pe_op op_cat (pv 5) (pe_lc (own := [("_law_k", 8)]) (g := (gName 8)) rfl nd (pi_range1 (by rfl) T.range (pa_cons (pe_callB call_len_seq (by rfl) T.len (by decide +kernel) (pa_cons (pe_ix ix_tup (pv 0) pe_int (fun _ _ => rfl)) pa_nil)) pa_nil)) (blkOk_by (N := n_law_least_row) (sc := defScope s_law_least_row) (by decide +kernel)) (fun _ _ _ _ _ => (pg_name (i := 8) nd rfl (Or.inl rfl))) (fun _ _ _ _ _ => (pts_one (PW.pt (pw_and (pt_cmpR (op_notInK K) (pv 8) (pv 6) (by rfl)) (pw_and1 (pt_val (pe_cal c_law_has_half hr (by decide) (by rfl) (pa_cons (pv 0) (pa_cons (pv 8) (pa_cons (pv 1) (pa_cons (pv 6) pa_nil))))))))))) (fun _ _ _ _ _ => (pe_op (op_catAK K) (pv 6) (pe_tup (pa_cons (pv 8) pa_nil)))))))))
        (pss_cons (ps_setLc (i := 7) (own := [("_law_way", 6)]) (g := (gName 6)) rfl nd rfl rfl (sw_true rfl rfl rfl (by decide +kernel)) (pi_list (pv 5)) (blkOk_by (N := n_law_least_row) (sc := defScope s_law_least_row) (by decide +kernel)) (fun _ _ _ _ _ => (pg_name (i := 6) nd rfl (Or.inl rfl))) (fun _ _ _ _ _ => (pts_one (pt_cmpR op_eq (pe_ix (ix_tupK K) (pv 6) (pe_un un_neg pe_int) (fun _ _ => rfl)) (pv 2) (nomark _)))) (fun _ _ _ _ _ => (pv 6)))
        (pss_cons (ps_if (pt_cmpR op_gt (pe_callB call_len_seq (by rfl) T.len (by decide +kernel) (pa_cons (pv 7) pa_nil)) pe_int (nomark _)) (pss_one (ps_ret (pe_callB (cr_minR rfl hu6) (by rfl) T.min (by decide +kernel) (pa_cons (pv 7) pa_nil)))) pss_nil)
        (pss_one (ps_set (i := 3) nd rfl (Or.inl rfl) (pv 5))))))))
      (pss_one (ps_ret pe_non))), ?_⟩
    obtain ⟨xa, wv, rfl, hx, wa, ws, rfl, hw, pw⟩ := id pl.parts
    have lw := pw.length
    have big := sizeBig
    have m : Mono (hfOf hs lot) := hfOf_mono hs lot
    -- found = [()]
    refine ⟨sz (by show 0 ≤ 1000000; omega), fun t nt => ⟨sz (by show 1 ≤ 1000000; omega), fun F nF => ?_⟩⟩
    have sm0 : Same H (upd (upd H t (.tup [])) F (.lst [.ref t])) := (same_upd nt).trans (same_upd nF)
    have gt : upd (upd H t (.tup [])) F (.lst [.ref t]) t = some (.tup []) := (same_upd nF) _ _ upd_same
    have gF : upd (upd H t (.tup [])) F (.lst [.ref t]) F = some (.lst [.ref t]) := upd_same
    generalize upd (upd H t (.tup [])) F (.lst [.ref t]) = H0 at sm0 gt gF ⊢
    refine ⟨_, rfl, xa, _, 1, .ref wa, rfl, rfl, SqT.of (sm0 _ _ hx), atI_nat (j := 1) rfl, wa, ws, rfl, .inr (SqT.of (sm0 _ _ hw)), _, rfl, by omega, by omega, for_range (lo := 0) (n := (ws.length : Int).toNat) (fun i σ H1 => ∃ F o4 o5 o6 o7 xs Fs, σ = [some (.ref xa), some l, some (.int h), some (.ref F), o4, o5, o6, o7, none] ∧ Same H H1 ∧
      H1 F = some (.lst xs) ∧ Paired (RowAt H1) xs Fs ∧ AllRows hs.length (hfOf hs lot) i Fs ∧ NoRow hs.length (hfOf hs lot) i h ∧ Fs.length ≤ 5 ^ i) ?_ ?_ ?_⟩
    · exact ⟨F, _, _, _, _, [.ref t], [[]], rfl, sm0, gF, .cons ⟨t, rfl, gt⟩ .nil, .zero, .zero, Nat.le_refl _⟩
    · rintro i σ H1 hi ⟨F, o4, o5, o6, o7, xs, Fs, rfl, sm, hF, pr, AR, NR, lF⟩
      rw [Int.toNat_natCast] at hi
      have i5 : i ≤ 4 := by omega
      have p5 : 5 ^ i ≤ 5 ^ 4 := Nat.pow_le_pow_right (by omega) i5
      have lF2 : Fs.length ≤ 625 := Nat.le_trans lF p5
      have lp := pr.length
      -- longer
      refine ⟨sz (by show 0 ≤ 1000000; omega), fun l0 nl0 => ?_⟩
      refine ⟨_, rfl, F, rfl, ⟨xs, SqL.of ((same_upd nl0) _ _ hF)⟩, for_list (a := F) (xs := xs) (fun j σ H2 => ∃ lo o6 ys, σ = [some (.ref xa), some l, some (.int h), some (.ref F), some (.int (0 + i)), some (.ref lo), o6, o7, none] ∧ Same H1 H2 ∧
        H2 lo = some (.lst ys) ∧ Paired (RowAt H2) ys ((Fs.take j).flatMap (ext hs.length (hfOf hs lot)))) ?_ (fun j σ H2 _ ⟨_, _, _, _, e, _⟩ => SqL.of (e _ _ hF)) ?_ ?_⟩
      · exact ⟨l0, _, [], rfl, same_upd nl0, upd_same, by rw [List.take_zero, List.flatMap_nil]; exact .nil⟩
      · rintro j y σ H2 hj ⟨lo, o6, ys, rfl, sm2, hlo, pr2⟩
        have hjl := (List.getElem?_eq_some_iff.mp hj).1
        obtain ⟨r, hr1, a, rfl, ha⟩ := paired_at pr hj
        have hrow := (AR.ok r (List.mem_of_getElem? hr1))
        have lr : r.length ≤ hs.length := hrow.1.length_le
        refine ⟨_, rfl, _, rfl, xa, _, 1, .ref wa, rfl, rfl, SqT.of (sm2 _ _ (sm _ _ hx)), atI_nat (j := 1) rfl, wa, ws, rfl, .inr (SqT.of (sm2 _ _ (sm _ _ hw))), _, rfl, by omega, by omega, fun o no => ?_⟩
        refine lc_range (lo := 0) (n := (ws.length : Int).toNat) (fun k H3 => Same H2 H3 ∧ ∃ zs, H3 o = some (.lst zs) ∧ Paired (RowAt H3) zs ((((upto hs.length).take k).filter fun k => !decide (k ∈ r) && hfOf hs lot k r).map fun k => r ++ [k])) ⟨same_upd no, [], upd_same, .nil⟩ ?_ ?_
        · rintro k H3 hk ⟨sm3, zs, ho, pr3⟩
          rw [Int.toNat_natCast] at hk
          have ft := filter_take (fun k => !decide (k ∈ r) && hfOf hs lot k r) (upto hs.length) k (k : Int) (get_upto (by omega))
          have small : (((upto hs.length).take k).filter fun k => !decide (k ∈ r) && hfOf hs lot k r).length ≤ k := Nat.le_trans (List.length_filter_le _ _) (List.length_take_le _ _)
          rw [Int.zero_add]
          have pl3 := pl.ts (TS.of ((sm.trans sm2).trans sm3))
          have ha3 := sm3 _ _ (sm2 _ _ ha)
          refine ⟨rfl, _, rfl, _, rfl, notin_ints (.inr (SqT.of ha3)) ⟨_, rfl, ite2 (fun e => ?_) (fun e => ?_)⟩⟩
          · obtain ⟨ds, hd1, hd2⟩ := pl3.get (k := (k : Int)) (by omega) (by omega)
            refine ⟨_, rfl, _, rfl, _, rfl, _, rfl, _, _, _, folk, (k : Int), hs, lot, r, ds, rfl, pl3.parts, pl3.lot, ⟨a, rfl, .inr (SqT.of ha3)⟩, by omega, hd1, hd2, fun H4 sm4 => ⟨_, rfl, ite2 (fun e2 => ?_) (fun e2 => ?_)⟩⟩
            · refine ⟨_, rfl, _, rfl, sz (by show 1 ≤ 1000000; omega), fun t nt => ?_⟩
              refine cat_row (r := r) (k := (k : Int)) ((same_upd nt) _ _ (sm4 _ _ ha3)) upd_same (by omega) fun z H5 sm5 hz => ?_
              have sm35 : Same H3 H5 := (sm4.trans (same_upd nt)).trans sm5
              have ho5 := sm35 _ _ ho
              have tso : TS H5 (upd H5 o (.lst (zs ++ [z]))) := TS.lst ho5
              refine ⟨zs, ho5, ?_, same_written (sm3.trans sm35) no, zs ++ [z], upd_same, ?_⟩
              · have := pr3.length
                rw [List.length_map] at this
                omega
              · rw [ft, if_pos (by rw [e, e2]; rfl), List.map_append]
                exact paired_snoc (paired_ts (fun _ _ q => q.ts ((TS.of sm35).trans tso)) pr3) (hz.ts tso)
            · refine ⟨sm3.trans sm4, zs, sm4 _ _ ho, ?_⟩
              rw [ft, if_neg (by rw [Bool.and_eq_true]; exact fun z => e2 z.2)]
              exact paired_ts (fun _ _ q => q.ts (TS.of sm4)) pr3
          · refine ⟨sm3, zs, ho, ?_⟩
            rw [ft, if_neg (by rw [Bool.and_eq_true]; exact fun z => e z.1)]
            exact pr3
        · rintro H3 ⟨sm3, zs, ho, pr3⟩
          have ef : ((upto hs.length).take (ws.length : Int).toNat) = upto hs.length := by
            rw [Int.toNat_natCast, List.take_of_length_le]
            rw [length_upto]
            omega
          rw [ef] at pr3
          have pr3 : Paired (RowAt H3) zs (ext hs.length (hfOf hs lot) r) := pr3
          refine ⟨lo, o, ys, zs, rfl, rfl, sm3 _ _ hlo, ho, ?_, fun l2 nl2 => ⟨l2, _, ys ++ zs, rfl, (sm2.trans sm3).trans (same_upd nl2), upd_same, ?_⟩⟩
          · have l1 := pr2.length
            have l2 := pr3.length
            have l3 := length_exts (N := hs.length) (hf := hfOf hs lot) (Fs.take j)
            have l4 := length_ext (N := hs.length) (hf := hfOf hs lot) (r := r)
            have l5 : (Fs.take j).length * hs.length ≤ 625 * 5 := Nat.mul_le_mul (Nat.le_trans (by rw [List.length_take]; omega) lF2) five
            omega
          · rw [List.take_add_one, hr1, List.flatMap_append]
            have : (some r).toList.flatMap (ext hs.length (hfOf hs lot)) = ext hs.length (hfOf hs lot) r := by simp
            rw [this]
            have ts3 : TS H3 (upd H3 l2 (.lst (ys ++ zs))) := TS.upd nl2
            exact paired_app (paired_ts (fun _ _ q => q.ts ((TS.of sm3).trans ts3)) pr2) (paired_ts (fun _ _ q => q.ts ts3) pr3)
      · rintro σ H2 ⟨lo, o6, ys, rfl, sm2, hlo, pr2⟩
        rw [lp, List.take_length] at pr2
        have AR2 := AR.step
        have lL := length_exts (N := hs.length) (hf := hfOf hs lot) Fs
        have lL2 : Fs.length * hs.length ≤ 5 ^ i * 5 := Nat.mul_le_mul lF five
        generalize Fs.flatMap (ext hs.length (hfOf hs lot)) = L at pr2 AR2 lL
        have lL3 : L.length ≤ 5 ^ (i + 1) := by rw [Nat.pow_succ]; omega
        have lL4 : L.length ≤ 3125 := Nat.le_trans lL3 (Nat.pow_le_pow_right (by omega) (show i + 1 ≤ 5 by omega))
        -- ready
        have lpy := pr2.length
        refine ⟨_, rfl, lo, rfl, ⟨ys, SqL.of hlo⟩, fun o no => ?_⟩
        refine lc_list (a := lo) (xs := ys) (fun j H3 => Same H2 H3 ∧ ∃ zs, H3 o = some (.lst zs) ∧ Paired (RowAt H3) zs ((L.take j).filter (endsIn h))) ⟨same_upd no, [], upd_same, .nil⟩ (fun j H3 _ ⟨e, _⟩ => SqL.of (e _ _ hlo)) ?_ ?_
        · rintro j y H3 hj ⟨sm3, zs, ho, pr3⟩
          have hjl := (List.getElem?_eq_some_iff.mp hj).1
          obtain ⟨r, hr1, a, rfl, ha⟩ := paired_at pr2 hj
          have hrow := (AR2.ok r (List.mem_of_getElem? hr1))
          have ft := filter_take (endsIn h) L j r hr1
          have small : ((L.take j).filter (endsIn h)).length ≤ j := Nat.le_trans (List.length_filter_le _ _) (List.length_take_le _ _)
          obtain ⟨r', k, rfl⟩ : ∃ r' k, r = r' ++ [k] := by
            refine ⟨r.dropLast, r.getLast (fun z => ?_), (List.dropLast_concat_getLast _).symm⟩
            rw [z] at hrow
            exact absurd hrow.2 (by simp)
          have hl : ((r' ++ [k]).map V.int)[r'.length]? = some (.int k) := by
            rw [List.getElem?_map]
            simp
          refine ⟨rfl, _, rfl, 1, rfl, a, _, _, .int k, rfl, rfl, SqT.of (sm3 _ _ ha), at_last (n := r'.length) (by simp) hl, _, rfl, rfl, _, rfl, ?_⟩
          rw [← endsIn_snoc h k r']
          refine ite2 (fun e => ?_) (fun e => ?_)
          · have tso : TS H3 (upd H3 o (.lst (zs ++ [.ref a]))) := TS.lst ho
            refine ⟨_, rfl, zs, ho, ?_, same_written sm3 no, zs ++ [.ref a], upd_same, ?_⟩
            · have := pr3.length
              omega
            · rw [ft, if_pos e]
              exact paired_snoc (paired_ts (fun _ _ q => q.ts tso) pr3) ⟨a, rfl, tso _ _ (sm3 _ _ ha)⟩
          · refine ⟨sm3, zs, ho, ?_⟩
            rw [ft, if_neg e]
            exact pr3
        · rintro H3 ⟨sm3, zs, ho, pr3⟩
          rw [lpy, List.take_length] at pr3
          have lz := pr3.length
          have lz2 : (L.filter (endsIn h)).length ≤ L.length := List.length_filter_le _ _
          refine ⟨_, rfl, o, zs, rfl, .inl (SqL.of ho), _, _, rfl, rfl, _, rfl, ite2 (fun e => ?_) (fun e => ?_)⟩
          · have e := of_decide_eq_true e
            refine ⟨_, rfl, o, zs, _, rfl, SqL.of ho, pr3, (fun z => ?_), fun x r hx hm hle => ?_⟩
            · rw [z] at lz
              simp at lz
              rw [lz] at e
              simp at e
            · exact q x H3 ((sm.trans sm2).trans sm3) (.inr ⟨r, hx, AR2.best NR hm hle⟩)
          · refine ⟨_, rfl, lo, _, _, _, _, ys, L, rfl, (sm.trans sm2).trans sm3, sm3 _ _ hlo, paired_ts (fun _ _ q => q.ts (TS.of sm3)) pr2, AR2, AR2.none NR ?_, lL3⟩
            have e2 : zs.length = 0 := by
              rcases Nat.eq_zero_or_pos zs.length with z | z
              · exact z
              · exact absurd (decide_eq_true (show (0 : Int) < (zs.length : Int) by omega)) e
            exact List.length_eq_zero_iff.mp (by omega)
    · rintro σ H1 ⟨F, o4, o5, o6, o7, xs, Fs, rfl, sm, hF, pr, AR, NR, lF⟩
      rw [Int.toNat_natCast, lw] at NR
      exact q _ _ sm (.inl ⟨rfl, NR.never⟩)
end
end K23
/-! Tables from lots of houses to rows, in the heap. -/
namespace K23
open PySem PySem.Spec PyProof.Rows L2
def kI (k : List Int) : List Key := k.map Sum.inl
theorem kI_inj {a b : List Int} (h : kI a = kI b) : a = b := by
  have : ∀ {a b : List Int}, kI a = kI b → a = b := by
    intro a
    induction a with
    | nil =>
      intro b h
      cases b with
      | nil => rfl
      | cons y b => cases h
    | cons x a ih =>
      intro b h
      cases b with
      | nil => cases h
      | cons y b =>
        injection h with h1 h2
        rw [Sum.inl.inj h1, ih h2]
  exact this h
theorem kV_kI (k : List Int) : (kI k).map kV = k.map V.int := by
  unfold kI
  rw [List.map_map]
  rfl
theorem dec_kI (a b : List Int) : decide (kI a = kI b) = decide (a = b) := by
  by_cases e : a = b
  · rw [e, decide_eq_true rfl, decide_eq_true rfl]
  · rw [decide_eq_false e, decide_eq_false fun z => e (kI_inj z)]
def EntAt (H : Hp) (p : List Key × V) (e : List Int × List Int) : Prop := p.1 = kI e.1 ∧ RowAt H p.2 e.2
theorem EntAt.ts {H H' : Hp} {p : List Key × V} {e : List Int × List Int} (h : EntAt H p e) (k : TS H H') : EntAt H' p e := ⟨h.1, h.2.ts k⟩
theorem tb_val {H : Hp} (k : List Int) : ∀ {kvs : List (List Key × V)} {D : Tb}, Paired (EntAt H) kvs D →
    (valV kvs (kI k) = none ∧ lookD D k = none) ∨ ∃ x v, valV kvs (kI k) = some x ∧ lookD D k = some v ∧ RowAt H x v
  | _, _, .nil => .inl ⟨rfl, rfl⟩
  | _, _, .cons (a := p) (b := e) (l₁ := kvs) (l₂ := D) h t => by
    obtain ⟨h1, h2⟩ := h
    by_cases q : e.1 = k
    · right
      refine ⟨p.2, e.2, ?_, ?_, h2⟩
      · unfold valV
        rw [List.find?_cons, h1, dec_kI, decide_eq_true q]
        rfl
      · unfold lookD
        rw [List.find?_cons, decide_eq_true q]
        rfl
    · have e1 : valV (p :: kvs) (kI k) = valV kvs (kI k) := by
        unfold valV
        rw [List.find?_cons, h1, dec_kI, decide_eq_false q]
      have e2 : lookD (e :: D) k = lookD D k := by
        unfold lookD
        rw [List.find?_cons, decide_eq_false q]
      rw [e1, e2]
      exact tb_val k t
theorem tb_any {H : Hp} (k : List Int) : ∀ {kvs : List (List Key × V)} {D : Tb}, Paired (EntAt H) kvs D → (kvs.any fun kv => decide (kv.1 = kI k)) = D.any fun kv => decide (kv.1 = k)
  | _, _, .nil => rfl
  | _, _, .cons (a := p) (b := e) h t => by
    rw [List.any_cons, List.any_cons, h.1, dec_kI, tb_any k t]
theorem tb_map {H : Hp} {k v : List Int} {x : V} (hx : RowAt H x v) : ∀ {kvs : List (List Key × V)} {D : Tb}, Paired (EntAt H) kvs D → Paired (EntAt H) (kvs.map fun kv => if kv.1 = kI k then (kv.1, x) else kv) (D.map fun kv => if kv.1 = k then (kv.1, v) else kv)
  | _, _, .nil => .nil
  | _, _, .cons (a := p) (b := e) h t => by
    refine .cons ?_ (tb_map hx t)
    by_cases q : e.1 = k
    · have q' : p.1 = kI k := by rw [h.1, q]
      show EntAt H (if p.1 = kI k then _ else _) (if e.1 = k then _ else _)
      rw [if_pos q, if_pos q']
      exact ⟨h.1, hx⟩
    · have q' : ¬ p.1 = kI k := fun z => q (kI_inj (h.1.symm.trans z))
      show EntAt H (if p.1 = kI k then _ else _) (if e.1 = k then _ else _)
      rw [if_neg q, if_neg q']
      exact h
theorem tb_put {H : Hp} {k v : List Int} {x : V} (hx : RowAt H x v) {kvs : List (List Key × V)} {D : Tb} (h : Paired (EntAt H) kvs D) : Paired (EntAt H) (putK kvs (kI k) x) (putD D k v) := by
  unfold putK putD
  rw [tb_any k h]
  split
  · exact tb_map hx h
  · exact paired_snoc h ⟨rfl, hx⟩
/-- a table at d -/
def TbAt (H : Hp) (d : Addr) (D : Tb) : Prop := ∃ kvs, H d = some (.dT kvs) ∧ Paired (EntAt H) kvs D
theorem same_lock {H H' : Hp} {d : Addr} {od : Obj} {u : HO} (h : H d = some u) (k : Same (upd H d (.frz od u)) H') : Same H (upd H' d u) := fun b x e => by
  by_cases n : b = d
  · subst n
    rw [upd_same, ← e, h]
  · rw [upd_ne n]
    exact k b x (by rw [upd_ne n]; exact e)
theorem ts_lock {H : Hp} {d : Addr} {o : HO} {kvs : List (List Key × V)} (h : H d = some (.dT kvs)) : TS H (upd H d o) := fun b xs e => by
  rw [upd_ne (ne_of e h (fun z => nomatch z))]
  exact e
theorem ts_unlock {H : Hp} {d : Addr} {o : HO} {od : Obj} {u : HO} (h : H d = some (.frz od u)) : TS H (upd H d o) := fun b xs e => by
  rw [upd_ne (ne_of e h (fun z => nomatch z))]
  exact e
/-- what stands in a table that is locked -/
theorem DGet.tl {H : Hp} {a b : Addr} {od : Obj} {kvs : List (List Key × V)} {k : List Int} (e : H a = some (.frz od (.dT kvs))) (eb : H b = some (.tup (k.map V.int))) : DGet H a (.ref b) (valV kvs (kI k)) :=
  .inr ⟨kvs, kI k, b, .inr ⟨od, e⟩, rfl, by rw [kV_kI]; exact eb, rfl⟩
theorem DGet.to {H : Hp} {a b : Addr} {kvs : List (List Key × V)} {k : List Int} (e : H a = some (.dT kvs)) (eb : H b = some (.tup (k.map V.int))) : DGet H a (.ref b) (valV kvs (kI k)) :=
  .inr ⟨kvs, kI k, b, .inl e, rfl, by rw [kV_kI]; exact eb, rfl⟩
theorem DPut.to {H : Hp} {a b : Addr} {kvs : List (List Key × V)} {k : List Int} {v : V} (e : H a = some (.dT kvs)) (eb : H b = some (.tup (k.map V.int))) (hl : kvs.length < sizeLine) :
    DPut H a (.ref b) v (upd H a (.dT (putK kvs (kI k) v))) := .inr ⟨kvs, kI k, b, e, rfl, by rw [kV_kI]; exact eb, hl, rfl⟩
/-- a key that is told, by its entry -/
theorem key_at {H H' : Hp} {kvs : List (List Key × V)} {D : Tb} (pr : Paired (EntAt H) kvs D) {i : Nat} {k : List Key} {v : V} {q : Addr} (hi : kvs[i]? = some (k, v)) (hq : H' q = some (.tup (k.map kV))) :
    ∃ e, D[i]? = some e ∧ e ∈ D ∧ H' q = some (.tup (e.1.map V.int)) ∧ RowAt H v e.2 := by
  obtain ⟨e, he, h1, h2⟩ := paired_at pr hi
  refine ⟨e, he, List.mem_of_getElem? he, ?_, h2⟩
  rw [hq, show k = kI e.1 from h1, kV_kI]
theorem lx_snoc_same : ∀ {r s : List Int} (k : Int), r.length = s.length → lx (r ++ [k]) (s ++ [k]) = lx r s
  | [], [], k, _ => lx_self [k]
  | [], _ :: _, _, h => by cases h
  | _ :: _, [], _, h => by cases h
  | x :: r, y :: s, k, h => by
    show (if x = y then lx (r ++ [k]) (s ++ [k]) else decide (x < y)) = (if x = y then lx r s else decide (x < y))
    rw [lx_snoc_same k (Nat.succ.inj h)]
theorem look_mem : ∀ {D : Tb} {e : List Int × List Int}, (D.map (·.1)).Nodup → e ∈ D → lookD D e.1 = some e.2
  | [], _, _, h => nomatch h
  | p :: D, e, hn, h => by
    rw [List.map_cons, List.nodup_cons] at hn
    unfold lookD
    by_cases q : p.1 = e.1
    · rw [List.find?_cons, decide_eq_true q]
      rcases List.mem_cons.mp h with z | z
      · rw [z]
        rfl
      · exact absurd (List.mem_map.mpr ⟨e, z, q.symm⟩) hn.1
    · rw [List.find?_cons, decide_eq_false q]
      rcases List.mem_cons.mp h with z | z
      · exact absurd (by rw [z]) q
      · exact look_mem hn.2 z
/-- what the table holds at a lot of houses of its own -/
theorem tb_own {H : Hp} {kvs : List (List Key × V)} {D : Tb} (pr : Paired (EntAt H) kvs D) (nd : (D.map (·.1)).Nodup) {e : List Int × List Int} (he : e ∈ D) : ∃ x, valV kvs (kI e.1) = some x ∧ RowAt H x e.2 := by
  have q := look_mem nd he
  rcases tb_val e.1 pr with ⟨_, h2⟩ | ⟨x, v, h1, h2, h3⟩
  · rw [q] at h2
    cases h2
  · rw [q] at h2
    cases h2
    exact ⟨x, h1, h3⟩
end K23
/-! The least row, by lots of houses. -/
namespace K23
open PySem PySem.Spec PyProof.Rows L2
section
variable {P : Program} {w : World} {K : PySem.W.Frag} {mg : Str → Option Value} {base : Heap}
abbrev n_law_least_by_lots : List Str := ["_law_parts_here", "_law_lot_here", "_law_house", "_law_known", "_law_turn", "_law_some_here", "_law_ready", "_law_later", "_law_k", "_law_more", "_law_way"]
theorem sc_law_least_by_lots : FnScope n_law_least_by_lots ["_law_parts_here", "_law_lot_here", "_law_house"] (defScope s_law_least_by_lots) := ⟨rfl, rfl, rfl, by decide +kernel, rfl, by decide +kernel, by decide +kernel⟩
def spLots : Sp := fun vs H Q _ => ∃ (x l : V) (folk : Int) (hs : List (List Hd)) (lot : List Int) (h : Int), vs = [x, l, .int h] ∧ PL H x l folk hs lot ∧ 0 ≤ h ∧ h < hs.length ∧ ∀ (y : V) (H' : Hp), Same H H' → Ans H' y hs.length (hfOf hs lot) h → Q y H'
theorem ok_law_least_by_lots (T : Txt K mg) (c_law_has_half : Cal CX0 P w K mg base 1 "_law_has_half" (spLHalf K)) (D : Df K mg "_law_least_by_lots" s_law_least_by_lots ["_law_parts_here", "_law_lot_here", "_law_house"]) : Cal CX0 P w K mg base 2 "_law_least_by_lots" spLots := by
  refine D.cal sc_law_least_by_lots (fun vs H Q E h => ?_) (fun f cdv A outer s H vs Q E hr h => ?_)
  · obtain ⟨x, l, folk, hs, lot, h, rfl, _⟩ := h
    rfl
  · obtain ⟨x, l, folk, hs, lot, h, rfl, pl, h0, h1, q⟩ := h
    have hu6 := hu60 hr
    have hu := hu_of hr
    have nd := sc_law_least_by_lots.nd
    refine ⟨_, pss_cons (ps_set (i := 3) nd rfl (Or.inr rfl) (pe_dispT hu (pe_tup pa_nil) (pe_tup pa_nil)))
      (pss_cons (ps_for PassesOwn.never rfl (pi_range1 (by rfl) T.range (pa_cons (pe_callB call_len_seq (by rfl) T.len (by decide +kernel) (pa_cons (pe_ix ix_tup (pv 0) pe_int (fun _ _ => rfl)) pa_nil)) pa_nil)) (pg_name (i := 4) nd rfl (Or.inl rfl))
        (pss_cons (ps_lock (ps_setLc (i := 6) (own := [("_law_some_here", 5)]) (g := (gName 5)) rfl nd rfl rfl (sw_true rfl rfl rfl (by decide +kernel)) (pi_keys (pv 3)) (blkOk_by (N := n_law_least_by_lots) (sc := defScope s_law_least_by_lots) (by decide +kernel)) (fun _ _ _ _ _ => (pg_name (i := 5) nd rfl (Or.inl rfl))) (fun _ _ _ _ _ => (pts_one (pt_val (pe_cal c_law_has_half hr (by decide) (by rfl) (pa_cons (pv 0) (pa_cons (pv 2) (pa_cons (pv 1) (pa_cons (pv 5) pa_nil)))))))) (fun _ _ _ _ _ => (pe_op (op_catAK K) (pe_dget hu (pv 3) (pv 5) (fun _ _ => rfl)) (pe_tup (pa_cons (pv 2) pa_nil))))))
        (pss_cons (ps_if (pt_cmpR op_gt (pe_callB call_len_seq (by rfl) T.len (by decide +kernel) (pa_cons (pv 6) pa_nil)) pe_int (nomark _)) (pss_one (ps_ret (pe_callB (cr_minR rfl hu6) (by rfl) T.min (by decide +kernel) (pa_cons (pv 6) pa_nil)))) pss_nil)
        (pss_cons (ps_set (i := 7) nd rfl (Or.inl rfl) pe_dnewT)
        (pss_cons (ps_lock (ps_for PassesOwn.never rfl (pi_keys (pv 3)) (pg_name (i := 5) nd rfl (Or.inl rfl))
          (pss_one (ps_for PassesOwn.never rfl (pi_range1 (by rfl) T.range (pa_cons (pe_callB call_len_seq (by rfl) T.len (by decide +kernel) (pa_cons (pe_ix ix_tup (pv 0) pe_int (fun _ _ => rfl)) pa_nil)) pa_nil)) (pg_name (i := 8) nd rfl (Or.inl rfl))
            (pss_one (ps_if (PW.pt (pw_and (pt_cmpR op_notIn_seq (pv 8) (pv 5) (by rfl)) (pw_and1 (pt_val (pe_cal c_law_has_half hr (by decide) (by rfl) (pa_cons (pv 0) (pa_cons (pv 8) (pa_cons (pv 1) (pa_cons (pv 5) pa_nil))))))))) (pss_cons (ps_set (i := 9) nd rfl (Or.inl rfl) (pe_callTy call_tuple_of (by rfl) T.tuple (by decide +kernel) (pa_cons (pe_callB (cr_sortIT hu6) (by rfl) T.sorted (by decide +kernel) (pa_cons (pe_op op_catA (pv 5) (pe_tup (pa_cons (pv 8) pa_nil))) pa_nil)) pa_nil)))
              (pss_cons (ps_set (i := 10) nd rfl (Or.inl rfl) (pe_op op_catA (pe_dget hu (pv 3) (pv 5) (fun _ _ => rfl)) (pe_tup (pa_cons (pv 8) pa_nil))))
              (pss_one (ps_if (PW.pt (pw_or (pt_cmp (pc_dnotin hu (pv 9) (pv 7))) (pw_or1 (pt_cmpR (op_ltE hu6) (pv 10) (pe_dget hu (pv 7) (pv 9) (fun _ _ => rfl)) (nomark _))))) (pss_one (ps_dput hu (pv 7) (pv 9) (pv 10) rfl)) pss_nil)))) pss_nil))))))
        (pss_one (ps_set (i := 3) nd rfl (Or.inr rfl) (pv 7))))))))
      (pss_one (ps_ret pe_non))), ?_⟩
    obtain ⟨xa, wv, rfl, hx, wa, ws, rfl, hw, pw⟩ := id pl.parts
    have lw := pw.length
    have few := pl.few
    have big := sizeBig
    have m : Mono (hfOf hs lot) := hfOf_mono hs lot
    -- known = {(): ()}
    refine fun kn nkn => ⟨sz (by show 0 ≤ 1000000; omega), fun t1 nt1 => ⟨sz (by show 0 ≤ 1000000; omega), fun t2 nt2 => ?_⟩⟩
    have nkt1 : kn ≠ t1 := ne_of_none upd_same nt1
    have nkt2 : kn ≠ t2 := ne_of_none (same_upd nt1 _ _ upd_same) nt2
    have nt1' : H t1 = none := by
      rw [upd_ne nkt1.symm] at nt1
      exact nt1
    have g1 : upd (upd (upd H kn (.dT [])) t1 (.tup [])) t2 (.tup []) t1 = some (.tup []) := same_upd nt2 _ _ upd_same
    have g2 : upd (upd (upd H kn (.dT [])) t1 (.tup [])) t2 (.tup []) t2 = some (.tup []) := upd_same
    have gk : upd (upd (upd H kn (.dT [])) t1 (.tup [])) t2 (.tup []) kn = some (.dT []) := same_upd nt2 _ _ (same_upd nt1 _ _ upd_same)
    have sm0 : Same H (upd (upd (upd H kn (.dT [])) t1 (.tup [])) t2 (.tup [])) := (same_upd nkn).trans ((same_upd nt1).trans (same_upd nt2))
    generalize upd (upd (upd H kn (.dT [])) t1 (.tup [])) t2 (.tup []) = H0 at g1 g2 gk sm0 ⊢
    refine ⟨_, _, rfl, t1, [], rfl, g1, gk, ?_⟩
    have smk : Same H (upd H0 kn (.dT [([], .ref t2)])) := same_written sm0 nkn
    have tb0 : TbAt (upd H0 kn (.dT [([], .ref t2)])) kn [([], [])] := ⟨_, upd_same, .cons ⟨rfl, t2, rfl, by rw [upd_ne nkt2.symm]; exact g2⟩ .nil⟩
    generalize upd H0 kn (.dT [([], .ref t2)]) = H1 at smk tb0 ⊢
    refine ⟨_, rfl, xa, _, 1, .ref wa, rfl, rfl, SqT.of (smk _ _ hx), atI_nat (j := 1) rfl, wa, ws, rfl, .inr (SqT.of (smk _ _ hw)), _, rfl, by omega, by omega, for_range (lo := 0) (n := (ws.length : Int).toNat) (fun i σ H1 => ∃ kn o4 o5 o6 o7 o8 o9 o10 Dt, σ = [some (.ref xa), some l, some (.int h), some (.ref kn), o4, o5, o6, o7, o8, o9, o10] ∧ Same H H1 ∧
      H kn = none ∧ TbAt H1 kn Dt ∧ Lev hs.length (hfOf hs lot) i Dt ∧ NoRow hs.length (hfOf hs lot) i h) ?_ ?_ ?_⟩
    · exact ⟨kn, _, _, _, _, _, _, _, _, rfl, smk, nkn, tb0, .zero, .zero⟩
    · rintro i σ H2 hi ⟨kn, o4, o5, o6, o7, o8, o9, o10, Dt, rfl, sm, nkn, ⟨kvs, hkn, pr⟩, LV, NR⟩
      rw [Int.toNat_natCast] at hi
      clear smk tb0 g1 g2 gk sm0
      have lD : Dt.length ≤ 4096 := Nat.le_trans (ents_size LV.nd LV.ok) (Nat.pow_le_pow_right (by omega) few)
      have lp := pr.length
      -- ready
      refine ⟨kn, .dT kvs, hkn, trivial, fun od => ?_⟩
      have smL : Same H (upd H2 kn (.frz od (.dT kvs))) := same_written sm nkn
      have tsL : TS H2 (upd H2 kn (.frz od (.dT kvs))) := ts_lock hkn
      refine ⟨_, rfl, kn, od, rfl, .inr ⟨kvs, upd_same, fun o no => ?_⟩⟩
      have hknL : upd H2 kn (.frz od (.dT kvs)) kn = some (.frz od (.dT kvs)) := upd_same
      have prL := paired_ts (fun _ _ q => EntAt.ts q tsL) pr
      have unl : ∀ H3, Same (upd H2 kn (.frz od (.dT kvs))) H3 → Same H2 (upd H3 kn (.dT kvs)) := fun H3 k => same_lock hkn k
      generalize upd H2 kn (.frz od (.dT kvs)) = HL at smL tsL hknL prL unl no ⊢
      refine lc_it walk_keysT (fun j H3 => Same HL H3 ∧ ∃ zs, H3 o = some (.lst zs) ∧ Paired (RowAt H3) zs (((Dt.take j).filter fun e => hfOf hs lot h e.1).map fun e => e.2 ++ [h])) ⟨same_upd no, [], upd_same, .nil⟩ (fun j H3 _ ⟨e, _⟩ => e _ _ hknL) ?_ ?_
      · rintro j y H3 H3' hj ⟨sm3, zs, ho, pr3⟩ ⟨rfl, k, v, qa, hkv, rfl, hq⟩
        obtain ⟨e, he1, he2, hq', hv⟩ := key_at prL hkv hq
        have E := LV.ok e he2
        have ft := filter_take (fun e : List Int × List Int => hfOf hs lot h e.1) Dt j e he1
        have pl3 := pl.ts (TS.of (smL.trans sm3))
        obtain ⟨ds, hd1, hd2⟩ := pl3.get h0 h1
        refine ⟨rfl, _, rfl, _, rfl, _, rfl, _, rfl, _, _, _, folk, h, hs, lot, e.1, ds, rfl, pl3.parts, pl3.lot, ⟨qa, rfl, .inr (SqT.of hq')⟩, h0, hd1, hd2, fun H4 sm4 => ⟨_, rfl, ite2 (fun e2 => ?_) (fun e2 => ?_)⟩⟩
        · obtain ⟨x, hx1, ⟨xr, rfl, hxr⟩⟩ := tb_own prL LV.nd he2
          refine ⟨_, rfl, _, rfl, kn, .ref xr, rfl, ?_, _, rfl, sz (by show 1 ≤ 1000000; omega), fun t nt => ?_⟩
          · rw [← hx1]
            exact DGet.tl (sm4 _ _ (sm3 _ _ hknL)) (sm4 _ _ hq')
          · have lr : e.2.length ≤ hs.length := E.row.length_le
            refine cat_row (r := e.2) (k := h) ((same_upd nt) _ _ (sm4 _ _ (sm3 _ _ hxr))) upd_same (by omega) fun z H5 sm5 hz => ?_
            have sm35 : Same H3' H5 := (sm4.trans (same_upd nt)).trans sm5
            have ho5 := sm35 _ _ ho
            have tso : TS H5 (upd H5 o (.lst (zs ++ [z]))) := TS.lst ho5
            refine ⟨zs, ho5, ?_, same_written (sm3.trans sm35) no, zs ++ [z], upd_same, ?_⟩
            · have l1 := pr3.length
              have l2 : ((Dt.take j).filter fun e => hfOf hs lot h e.1).length ≤ Dt.length := Nat.le_trans (List.length_filter_le _ _) (by rw [List.length_take]; omega)
              rw [List.length_map] at l1
              omega
            · rw [ft, if_pos e2, List.map_append]
              exact paired_snoc (paired_ts (fun _ _ q => q.ts ((TS.of sm35).trans tso)) pr3) (hz.ts tso)
        · refine ⟨sm3.trans sm4, zs, sm4 _ _ ho, ?_⟩
          rw [ft, if_neg e2]
          exact paired_ts (fun _ _ q => q.ts (TS.of sm4)) pr3
      · rintro H3 ⟨sm3, zs, ho, pr3⟩
        refine ⟨sm3 _ _ hknL, ?_⟩
        have okn : o ≠ kn := (ne_of_none hknL no).symm
        have smU := unl H3 sm3
        have tsU : TS H3 (upd H3 kn (.dT kvs)) := ts_unlock (sm3 _ _ hknL)
        have hoU : upd H3 kn (.dT kvs) o = some (.lst zs) := by rw [upd_ne okn]; exact ho
        have hknU : upd H3 kn (.dT kvs) kn = some (.dT kvs) := upd_same
        generalize upd H3 kn (.dT kvs) = H4 at smU tsU hoU hknU ⊢
        rw [lp, List.take_length] at pr3
        have pr3 := paired_ts (fun _ _ q => q.ts tsU) pr3
        have er : ((Dt.filter fun e => hfOf hs lot h e.1).map fun e => e.2 ++ [h]) = (readyOf (hfOf hs lot) Dt h).map fun r => r ++ [h] := by
          unfold readyOf
          rw [List.map_map]
          rfl
        rw [er] at pr3
        have lz := pr3.length
        rw [List.length_map] at lz
        refine ⟨_, rfl, o, zs, rfl, .inl (SqL.of hoU), _, _, rfl, rfl, _, rfl, ite2 (fun e => ?_) (fun e => ?_)⟩
        · have e := of_decide_eq_true e
          refine ⟨_, rfl, o, zs, _, rfl, SqL.of hoU, pr3, (fun z => ?_), fun x r hx hm hle => ?_⟩
          · have z := List.map_eq_nil_iff.mp z
            rw [z] at lz
            rw [lz] at e
            simp at e
          · obtain ⟨r0, hr0, rfl⟩ := List.mem_map.mp hm
            refine q x H4 (sm.trans smU) (.inr ⟨_, hx, LV.best m ⟨h0, h1⟩ NR hr0 fun s hs' => ?_⟩)
            have := hle (s ++ [h]) (List.mem_map.mpr ⟨s, hs', rfl⟩)
            obtain ⟨f1, f1m, _, f1e⟩ := mem_ready.mp hr0
            obtain ⟨f2, f2m, _, f2e⟩ := mem_ready.mp hs'
            have l1 := (LV.ok f1 f1m).len
            have l2 := (LV.ok f2 f2m).len
            unfold Le at this ⊢
            rw [lx_snoc_same h (by rw [← f1e, ← f2e, l1, l2])] at this
            exact this
        · have e0 : readyOf (hfOf hs lot) Dt h = [] := by
            have z : zs.length = 0 := by
              rcases Nat.eq_zero_or_pos zs.length with z | z
              · exact z
              · exact absurd (decide_eq_true (show (0 : Int) < (zs.length : Int) by omega)) e
            exact List.length_eq_zero_iff.mp (by omega)
          have NR2 := LV.none m NR e0
          have sm4 := sm.trans smU
          have prU := paired_ts (fun _ _ q => EntAt.ts q (TS.of smU)) pr
          clear pr3 lz er unl prL hknL tsL smL
          -- later = {}
          refine fun lt nlt => ?_
          have nlt0 : H lt = none := by
            cases z : H lt with
            | none => rfl
            | some y => rw [sm4 _ _ z] at nlt; cases nlt
          have ltk : kn ≠ lt := ne_of_none hknU nlt
          have hkn1 : upd H4 lt (.dT []) kn = some (.dT kvs) := by rw [upd_ne ltk]; exact hknU
          refine ⟨kn, .dT kvs, hkn1, trivial, fun od2 => ?_⟩
          -- the heap with the table locked, and without the new one
          have hkB : upd H4 kn (.frz od2 (.dT kvs)) kn = some (.frz od2 (.dT kvs)) := upd_same
          have smB : Same H (upd H4 kn (.frz od2 (.dT kvs))) := same_written sm4 nkn
          have nltB : upd H4 kn (.frz od2 (.dT kvs)) lt = none := by rw [upd_ne ltk.symm]; exact nlt
          have prB := paired_ts (fun _ _ q => EntAt.ts q (ts_lock (o := .frz od2 (.dT kvs)) hknU)) prU
          have smC : Same (upd H4 kn (.frz od2 (.dT kvs))) (upd (upd H4 lt (.dT [])) kn (.frz od2 (.dT kvs))) := fun b x z => by
            by_cases n : b = kn
            · subst n
              rw [upd_same] at z ⊢
              exact z
            · rw [upd_ne n] at z ⊢
              rw [upd_ne (fun y => by rw [y, nlt] at z; cases z)]
              exact z
          have hltC : upd (upd H4 lt (.dT [])) kn (.frz od2 (.dT kvs)) lt = some (.dT []) := by rw [upd_ne ltk.symm, upd_same]
          have unl : ∀ H3, Same (upd H4 kn (.frz od2 (.dT kvs))) H3 → Same H4 (upd H3 kn (.dT kvs)) := fun H3 k => same_lock hknU k
          generalize upd (upd H4 lt (.dT [])) kn (.frz od2 (.dT kvs)) = HC at smC hltC ⊢
          generalize upd H4 kn (.frz od2 (.dT kvs)) = HB at hkB smB nltB prB smC unl
          refine ⟨_, rfl, kn, od2, rfl, .inr ⟨kvs, smC _ _ hkB, for_it walk_keysT (fun j σ H5 => ∃ o5 o8 o9 o10 D', σ = [some (.ref xa), some l, some (.int h), some (.ref kn), some (.int (0 + i)), o5, some (.ref o), some (.ref lt), o8, o9, o10] ∧ Same HB H5 ∧
            TbAt H5 lt D' ∧ Mid hs.length (hfOf hs lot) i D' (fun e _ => e ∈ Dt.take j)) ?_ (fun j σ H5 _ ⟨_, _, _, _, _, _, z, _⟩ => z _ _ hkB) ?_ ?_⟩⟩
          · exact ⟨_, _, _, _, [], rfl, smC, ⟨[], hltC, .nil⟩, Mid.zero.mono fun e k z _ => by simp at z⟩
          · rintro j y σ H5 H5' hj ⟨o5, o8, o9, o10, D', rfl, sm5, tb5, MD⟩ ⟨rfl, k, v, qa, hkv, rfl, hq⟩
            obtain ⟨e, he1, he2, hq', hv⟩ := key_at prB hkv hq
            have E := LV.ok e he2
            refine ⟨_, rfl, xa, _, 1, .ref wa, rfl, rfl, SqT.of (sm5 _ _ (smB _ _ hx)), atI_nat (j := 1) rfl, wa, ws, rfl, .inr (SqT.of (sm5 _ _ (smB _ _ hw))), _, rfl, by omega, by omega, for_range (lo := 0) (n := (ws.length : Int).toNat) (fun k σ H6 => ∃ o8 o9 o10 D', σ = [some (.ref xa), some l, some (.int h), some (.ref kn), some (.int (0 + i)), some (.ref qa), some (.ref o), some (.ref lt), o8, o9, o10] ∧ Same HB H6 ∧
              H6 qa = some (.tup (e.1.map V.int)) ∧ TbAt H6 lt D' ∧ Mid hs.length (hfOf hs lot) i D' (fun e' k' => e' ∈ Dt.take j ∨ (e' = e ∧ k' < (k : Int)))) ?_ ?_ ?_⟩
            · refine ⟨_, _, _, D', rfl, sm5, hq', tb5, MD.mono fun e' k' z c => ?_⟩
              rcases z with z | ⟨_, z⟩
              · exact z
              · exact absurd c.1 (by omega)
            · rintro k σ H6 hk ⟨o8, o9, o10, D2, rfl, sm6, hq6, tb6, MD6⟩
              rw [Int.toNat_natCast] at hk
              rw [Int.zero_add (k : Int)]
              -- where it is no candidate
              have skip : ∀ H7, Same HB H7 → H7 qa = some (.tup (e.1.map V.int)) → TbAt H7 lt D2 → ¬ Cand hs.length (hfOf hs lot) e (k : Int) → ∃ p8 p9 p10 D', [some (V.ref xa), some l, some (.int h), some (.ref kn), some (.int (0 + i)), some (.ref qa), some (.ref o), some (.ref lt), some (.int k), o9, o10] = [some (.ref xa), some l, some (.int h), some (.ref kn), some (.int (0 + i)), some (.ref qa), some (.ref o), some (.ref lt), p8, p9, p10] ∧ Same HB H7 ∧
                  H7 qa = some (.tup (e.1.map V.int)) ∧ TbAt H7 lt D' ∧ Mid hs.length (hfOf hs lot) i D' (fun e' k' => e' ∈ Dt.take j ∨ (e' = e ∧ k' < ((k + 1 : Nat) : Int))) := fun H7 s7 q7 t7 nc => by
                refine ⟨_, _, _, D2, rfl, s7, q7, t7, MD6.mono fun e' k' z c => ?_⟩
                rcases z with z | ⟨z1, z2⟩
                · exact .inl z
                · by_cases n : k' = (k : Int)
                  · rw [z1, n] at c
                    exact absurd c nc
                  · exact .inr ⟨z1, by omega⟩
              have lr1 : e.1.length ≤ 1000 := by
                rw [E.perm.length_eq]
                have := E.row.length_le
                omega
              have lr2 : e.2.length ≤ 1000 := by
                have := E.row.length_le
                omega
              refine ⟨_, rfl, _, rfl, notin_ints (.inr (SqT.of hq6)) ⟨_, rfl, ite2 (fun e1 => ?_) (fun e1 => ?_)⟩⟩
              · have pl6 := pl.ts (TS.of (smB.trans sm6))
                obtain ⟨ds, hd1, hd2⟩ := pl6.get (k := (k : Int)) (by omega) (by omega)
                refine ⟨_, rfl, _, rfl, _, rfl, _, rfl, _, _, _, folk, (k : Int), hs, lot, e.1, ds, rfl, pl6.parts, pl6.lot, ⟨qa, rfl, .inr (SqT.of hq6)⟩, by omega, hd1, hd2, fun H7 sm7 => ⟨_, rfl, ite2 (fun e2 => ?_) (fun e2 => ?_)⟩⟩
                · -- a candidate
                  have cand : Cand hs.length (hfOf hs lot) e (k : Int) := ⟨by omega, by omega, (fun z => by rw [decide_eq_true z] at e1; cases e1), e2⟩
                  obtain ⟨kv2, hlt6, pr6⟩ := tb6
                  have hq7 := sm7 _ _ hq6
                  -- more
                  refine ⟨_, rfl, _, rfl, sz (by show 1 ≤ 1000000; omega), fun t nt => cat_row (r := e.1) (k := (k : Int)) (same_upd nt _ _ hq7) upd_same lr1 fun z1 H8 sm8 hz1 => ?_⟩
                  obtain ⟨za, rfl, hza⟩ := hz1
                  refine ⟨za, _, rfl, .inr (SqT.of hza), sz (by rw [List.length_append, List.length_singleton]; omega), fun ms p np pm asc => ⟨p, _, rfl, .inl ⟨SqL.of upd_same, fun tm ntm => ?_⟩⟩⟩
                  have sm9 : Same H6 (upd (upd H8 p (.lst (ms.map V.int))) tm (.tup (ms.map V.int))) := (((sm7.trans (same_upd nt)).trans sm8).trans (same_upd np)).trans (same_upd ntm)
                  have gtm : upd (upd H8 p (.lst (ms.map V.int))) tm (.tup (ms.map V.int)) tm = some (.tup (ms.map V.int)) := upd_same
                  generalize upd (upd H8 p (.lst (ms.map V.int))) tm (.tup (ms.map V.int)) = H9 at sm9 gtm ⊢
                  -- way
                  obtain ⟨x, hx1, ⟨xr, rfl, hxr⟩⟩ := tb_own prB LV.nd he2
                  have smB9 := sm6.trans sm9
                  refine ⟨_, rfl, _, rfl, kn, .ref xr, rfl, ?_, _, rfl, sz (by show 1 ≤ 1000000; omega), fun t2 nt2 => cat_row (r := e.2) (k := (k : Int)) (same_upd nt2 _ _ (smB9 _ _ hxr)) upd_same lr2 fun z2 H10 sm10 hz2 => ?_⟩
                  · rw [← hx1]
                    exact DGet.tl (smB9 _ _ hkB) (sm9 _ _ hq6)
                  have sm610 : Same H6 H10 := sm9.trans ((same_upd nt2).trans sm10)
                  have hlt10 := sm610 _ _ hlt6
                  have gtm10 : H10 tm = some (.tup (ms.map V.int)) := sm10 _ _ (same_upd nt2 _ _ gtm)
                  have pr10 := paired_ts (fun _ _ q => EntAt.ts q (TS.of sm610)) pr6
                  have smB10 := sm6.trans sm610
                  have MS := MD6.step m E cand pm asc
                  have hq10 := sm610 _ _ hq6
                  have lk := ents_size MD6.nd MD6.ok
                  have lk2 : D2.length ≤ 4096 := Nat.le_trans lk (Nat.pow_le_pow_right (by omega) few)
                  have lk3 := pr10.length
                  -- what stands behind it
                  have fin : ∀ (H11 : Hp) (D3 : Tb), D3 = stepD D2 ms (e.2 ++ [(k : Int)]) → Same HB H11 → H11 qa = some (.tup (e.1.map V.int)) → TbAt H11 lt D3 → ∃ p8 p9 p10 D', [some (V.ref xa), some l, some (.int h), some (.ref kn), some (.int (0 + i)), some (.ref qa), some (.ref o), some (.ref lt), some (.int k), some (.ref tm), some z2] = [some (.ref xa), some l, some (.int h), some (.ref kn), some (.int (0 + i)), some (.ref qa), some (.ref o), some (.ref lt), p8, p9, p10] ∧ Same HB H11 ∧
                      H11 qa = some (.tup (e.1.map V.int)) ∧ TbAt H11 lt D' ∧ Mid hs.length (hfOf hs lot) i D' (fun e' k' => e' ∈ Dt.take j ∨ (e' = e ∧ k' < ((k + 1 : Nat) : Int))) := fun H11 D3 e3 s11 q11 t11 => by
                    subst e3
                    refine ⟨_, _, _, _, rfl, s11, q11, t11, MS.mono fun e' k' z c => ?_⟩
                    rcases z with z | ⟨z1, z2⟩
                    · exact .inl (.inl z)
                    · by_cases n : k' = (k : Int)
                      · exact .inr ⟨z1, n⟩
                      · exact .inl (.inr ⟨z1, by omega⟩)
                  have gput := DPut.to (v := z2) hlt10 gtm10 (by omega)
                  have tsP : TS H10 (upd H10 lt (.dT (putK kv2 (kI ms) z2))) := ts_lock hlt10
                  have tbP : TbAt (upd H10 lt (.dT (putK kv2 (kI ms) z2))) lt (putD D2 ms (e.2 ++ [(k : Int)])) := ⟨_, upd_same, paired_ts (fun _ _ q => EntAt.ts q tsP) (tb_put hz2 pr10)⟩
                  have smP : Same HB (upd H10 lt (.dT (putK kv2 (kI ms) z2))) := same_written smB10 nltB
                  have gget := DGet.to hlt10 gtm10
                  rcases tb_val ms pr10 with ⟨v1, v2⟩ | ⟨x', old, v1, v2, v3⟩
                  · rw [v1] at gget
                    refine ⟨_, rfl, _, rfl, lt, none, rfl, gget, ⟨_, rfl, iteT ?_⟩⟩
                    refine ⟨_, rfl, _, rfl, _, rfl, lt, _, rfl, gput, fin _ _ ?_ smP (tsP _ _ hq10) tbP⟩
                    unfold stepD
                    rw [v2]
                  · rw [v1] at gget
                    refine ⟨_, rfl, _, rfl, lt, some x', rfl, gget, ⟨_, rfl, iteF ?_⟩⟩
                    refine ⟨_, rfl, _, rfl, _, rfl, lt, x', rfl, gget, ltE_rows hz2 v3 ⟨_, rfl, ite2 (fun e3 => ?_) (fun e3 => ?_)⟩⟩
                    · refine ⟨_, rfl, _, rfl, _, rfl, lt, _, rfl, gput, fin _ _ ?_ smP (tsP _ _ hq10) tbP⟩
                      unfold stepD
                      rw [v2]
                      exact (if_pos e3).symm
                    · refine fin H10 D2 ?_ smB10 hq10 ⟨kv2, hlt10, pr10⟩
                      unfold stepD
                      rw [v2]
                      exact (if_neg e3).symm
                · exact skip H7 (sm6.trans sm7) (sm7 _ _ hq6) (by
                    obtain ⟨kv2, z1, z2⟩ := tb6
                    exact ⟨kv2, sm7 _ _ z1, paired_ts (fun _ _ q => EntAt.ts q (TS.of sm7)) z2⟩) fun c => e2 c.2.2.2
              · refine iteF ?_
                exact skip H6 sm6 hq6 tb6 fun c => e1 (by rw [decide_eq_false c.2.2.1]; rfl)
            · rintro σ H6 ⟨o8, o9, o10, D2, rfl, sm6, hq6, tb6, MD6⟩
              refine ⟨_, _, _, _, D2, rfl, sm6, tb6, MD6.mono fun e' k' z c => ?_⟩
              rw [List.take_add_one, he1] at z
              rcases List.mem_append.mp z with z | z
              · exact .inl z
              · right
                simp at z
                refine ⟨z, ?_⟩
                have := c.2.1
                omega
          · rintro σ H5 ⟨o5, o8, o9, o10, D', rfl, sm5, ⟨kv2, hlt5, pr5⟩, MD⟩
            refine ⟨sm5 _ _ hkB, ?_⟩
            have smU2 := unl H5 sm5
            have tsU2 : TS H5 (upd H5 kn (.dT kvs)) := ts_unlock (sm5 _ _ hkB)
            rw [lp, List.take_length] at MD
            refine ⟨_, rfl, lt, _, _, _, _, _, _, _, D', rfl, sm4.trans smU2, nlt0, ⟨kv2, by rw [upd_ne ltk.symm]; exact hlt5, paired_ts (fun _ _ q => EntAt.ts q tsU2) pr5⟩, MD.lev m LV, NR2⟩
    · rintro σ H2 ⟨kn, o4, o5, o6, o7, o8, o9, o10, Dt, rfl, sm, nkn, tb, LV, NR⟩
      rw [Int.toNat_natCast, lw] at NR
      exact q _ _ sm (.inl ⟨rfl, NR.never⟩)
end
end K23
/-! Holders, shares and lots are right. -/
namespace K23
open PySem PySem.Spec PyProof.Rows L2
theorem all_true {bs : List Bool} (h : ∀ b ∈ bs, b = true) : bs.all id = true := by
  rw [List.all_eq_true]
  intro b hb
  exact h b hb
theorem repl_all (n : Nat) : (List.replicate n true).all id = true := all_true fun b hb => List.eq_of_mem_replicate hb
section
variable {P : Program} {w : World} {K : PySem.W.Frag} {mg : Str → Option Value} {base : Heap}
abbrev n_is_pair : List Str := ["thing"]
theorem sc_is_pair : FnScope n_is_pair ["thing"] (defScope s_is_pair) := ⟨rfl, rfl, rfl, by decide +kernel, rfl, by decide +kernel, by decide +kernel⟩
def spPair : Sp := fun vs H Q _ => ∃ (x : V) (d : Hd), vs = [x] ∧ HdAt H x d ∧ Q (.bl true) H
theorem ok_is_pair (T : Txt K mg) (D : Df K mg "is_pair" s_is_pair ["thing"]) : Cal CX0 P w K mg base 1 "is_pair" spPair := by
  refine D.cal sc_is_pair (fun vs H Q E h => ?_) (fun f cdv A outer s H vs Q E hr h => ?_)
  · obtain ⟨x, d, rfl, _⟩ := h
    rfl
  · obtain ⟨x, d, rfl, ⟨a, rfl, ha⟩, q⟩ := h
    have nd := sc_is_pair.nd
    refine ⟨_, pss_one (ps_ret (pe_and (pe_callB (call_isB "tuple") (by rfl) T.isinstance (by decide +kernel) (pa_cons (pv 0) (pa_cons (pe_ty "tuple" rfl T.tuple (by decide +kernel)) pa_nil))) (pe_one (pe_cmpR op_eq (pe_callB call_len_seq (by rfl) T.len (by decide +kernel) (pa_cons (pv 0) pa_nil)) pe_int (nomark _))))), ?_⟩
    exact ⟨_, rfl, _, _, _, rfl, ty_tup ha, kb_tuple_tuple, true, rfl, iteT ⟨_, rfl, a, _, rfl, .inr (SqT.of ha), rfl, q⟩⟩
abbrev n_is_holder_of : List Str := ["thing", "folk", "houses"]
theorem sc_is_holder_of : FnScope n_is_holder_of ["thing", "folk", "houses"] (defScope s_is_holder_of) := ⟨rfl, rfl, rfl, by decide +kernel, rfl, by decide +kernel, by decide +kernel⟩
def spHolderOf : Sp := fun vs H Q _ => ∃ (x : V) (d : Hd) (f n : Int), vs = [x, .int f, .int n] ∧ HdAt H x d ∧ d.ok f n ∧ Q (.bl true) H
theorem ok_is_holder_of (T : Txt K mg) (c_is_pair : Cal CX0 P w K mg base 1 "is_pair" spPair) (c_is_within : Cal CX0 P w K mg base 2 "is_within" spIsWithin) (D : Df K mg "is_holder_of" s_is_holder_of ["thing", "folk", "houses"]) : Cal CX0 P w K mg base 3 "is_holder_of" spHolderOf := by
  refine D.cal sc_is_holder_of (fun vs H Q E h => ?_) (fun f cdv A outer s H vs Q E hr h => ?_)
  · obtain ⟨x, d, f, n, rfl, _⟩ := h
    rfl
  · obtain ⟨x, d, f, n, rfl, ⟨a, rfl, ha⟩, ok, q⟩ := h
    have nd := sc_is_holder_of.nd
    refine ⟨_, pss_cons (ps_if (PW.pt (pw_or (pt_not (pt_val (pe_cal c_is_pair hr (by decide) (by rfl) (pa_cons (pv 0) pa_nil)))) (pw_or1 (pt_not (pt_val (pe_callB (call_isB "str") (by rfl) T.isinstance (by decide +kernel) (pa_cons (pe_ix ix_tup (pv 0) pe_int (fun _ _ => rfl)) (pa_cons (pe_ty "str" rfl T.str (by decide +kernel)) pa_nil)))))))) (pss_one (ps_ret pe_bl)) pss_nil)
      (pss_cons (ps_if (pt_cmpR op_eq (pe_ix ix_tup (pv 0) pe_int (fun _ _ => rfl)) pe_str (nomark _)) (pss_one (ps_ret (pe_cal c_is_within hr (by decide) (by rfl) (pa_cons (pe_ix ix_tup (pv 0) pe_int (fun _ _ => rfl)) (pa_cons pe_int (pa_cons (pe_op op_sub (pv 1) pe_int) pa_nil)))))) pss_nil)
      (pss_one (ps_ret (pe_and (pe_cmpR op_eq (pe_ix ix_tup (pv 0) pe_int (fun _ _ => rfl)) pe_str (nomark _)) (pe_one (pe_cal c_is_within hr (by decide) (by rfl) (pa_cons (pe_ix ix_tup (pv 0) pe_int (fun _ _ => rfl)) (pa_cons pe_int (pa_cons (pe_op op_sub (pv 2) pe_int) pa_nil))))))))), ?_⟩
    have g0 : atI d.vs 0 = some (.str d.sign) := atI_nat (j := 0) rfl
    have g1 : atI d.vs 1 = some (.int d.num) := atI_nat (j := 1) rfl
    refine ⟨_, rfl, .ref a, d, rfl, ⟨a, rfl, ha⟩, true, rfl, iteF ⟨_, rfl, a, _, 0, .str d.sign, rfl, rfl, SqT.of ha, g0, _, _, _, rfl, ty_str, kb_str_str, true, rfl, iteF ?_⟩⟩
    cases d with
    | f k =>
      refine ⟨_, rfl, a, _, 0, .str "f", rfl, rfl, SqT.of ha, g0, rfl, _, rfl, iteT ?_⟩
      refine ⟨_, rfl, a, _, 1, .int k, rfl, rfl, SqT.of ha, g1, _, rfl, f, 1, rfl, rfl, k, 0, f - 1, rfl, ?_⟩
      obtain ⟨h0, h1⟩ := ok
      rw [decide_eq_true h0, decide_eq_true (show k ≤ f - 1 by omega)]
      exact q
    | h k =>
      refine ⟨_, rfl, a, _, 0, .str "h", rfl, rfl, SqT.of ha, g0, rfl, _, rfl, ?_⟩
      rw [decide_eq_false (by decide +kernel)]
      refine iteF ⟨_, rfl, a, _, 0, .str "h", rfl, rfl, SqT.of ha, g0, rfl, _, rfl, iteT ?_⟩
      refine ⟨_, rfl, a, _, 1, .int k, rfl, rfl, SqT.of ha, g1, _, rfl, n, 1, rfl, rfl, k, 0, n - 1, rfl, ?_⟩
      obtain ⟨h0, h1⟩ := ok
      rw [decide_eq_true h0, decide_eq_true (show k ≤ n - 1 by omega)]
      exact q
abbrev n_are_rising : List Str := ["things", "at"]
theorem sc_are_rising : FnScope n_are_rising ["things"] (defScope s_are_rising) := ⟨rfl, rfl, rfl, by decide +kernel, rfl, by decide +kernel, by decide +kernel⟩
def spRising : Sp := fun vs H Q _ => ∃ (x : V) (ds : List Hd), vs = [x] ∧ HsAt H x ds ∧ ds.length ≤ 1000 ∧ ds.Pairwise (fun a b => Hd.le a b = true) ∧ ∀ H', Same H H' → Q (.bl true) H'
theorem ok_are_rising (T : Txt K mg) (D : Df K mg "are_rising" s_are_rising ["things"]) : Cal CX0 P w K mg base 1 "are_rising" spRising := by
  refine D.cal sc_are_rising (fun vs H Q E h => ?_) (fun f cdv A outer s H vs Q E hr h => ?_)
  · obtain ⟨x, ds, rfl, _⟩ := h
    rfl
  · obtain ⟨x, ds, rfl, ⟨a, xs, rfl, ha, pr⟩, hl, asc, q⟩ := h
    have hu6 := hu60 hr
    have nd := sc_are_rising.nd
    refine ⟨_, pss_one (ps_ret (pe_callB (cr_all rfl) (by rfl) T.all (by decide +kernel) (pa_cons (pe_lc (own := [("at", 1)]) (g := (gName 1)) (tt := tYes) rfl nd (pi_range2 (by rfl) T.range (pa_cons pe_int (pa_cons (pe_callB call_len_seq (by rfl) T.len (by decide +kernel) (pa_cons (pv 0) pa_nil)) pa_nil))) (blkOk_by (N := n_are_rising) (sc := defScope s_are_rising) (by decide +kernel)) (fun _ _ _ _ _ => (pg_name (i := 1) nd rfl (Or.inl rfl))) (fun _ _ _ _ _ => pts_nil) (fun _ _ _ _ _ => (pe_cmpR (op_leEK K hu6) (pe_ix (ix_tupK K) (pv 0) (pe_op op_sub (pv 1) pe_int) (fun _ _ => rfl)) (pe_ix (ix_tupK K) (pv 0) (pv 1) (fun _ _ => rfl)) (nomark _)))) pa_nil))), ?_⟩
    have lp := pr.length
    refine ⟨_, rfl, a, xs, rfl, .inr (SqT.of ha), 1, _, rfl, ⟨by omega, by omega, by omega, by omega⟩, fun o no => ?_⟩
    refine lc_range (lo := 1) (n := ((xs.length : Int) - 1).toNat) (fun i H1 => Same H H1 ∧ H1 o = some (.lst ((List.replicate i true).map V.bl))) ⟨same_upd no, upd_same⟩ ?_ ?_
    · rintro i H1 hi ⟨sm, ho⟩
      refine ⟨rfl, tyes ?_⟩
      have h1 : i < xs.length := by omega
      have h2 : i + 1 < xs.length := by omega
      obtain ⟨x1, d1, hx1, hd1, _, hat1⟩ := paired_mem pr h1
      obtain ⟨x2, d2, hx2, hd2, _, hat2⟩ := paired_mem pr h2
      have le : Hd.le d1 d2 = true := by
        obtain ⟨l1, e1⟩ := List.getElem?_eq_some_iff.mp hd1
        obtain ⟨l2, e2⟩ := List.getElem?_eq_some_iff.mp hd2
        rw [← e1, ← e2]
        exact List.pairwise_iff_getElem.mp asc i (i + 1) l1 l2 (by omega)
      refine ⟨_, rfl, _, rfl, _, 1, rfl, rfl, a, xs, _, x1, rfl, rfl, SqT.of (sm _ _ ha), at_of (j := i) (by omega) hx1, _, rfl, _, rfl, a, xs, _, x2, rfl, rfl, SqT.of (sm _ _ ha), at_of (j := i + 1) (by omega) hx2, ?_⟩
      refine leE_hds (hat1.ts (TS.of sm)) (hat2.ts (TS.of sm)) ?_
      rw [le]
      refine ⟨_, ho, ?_, same_written sm no, ?_⟩
      · have := sizeBig
        rw [List.length_map, List.length_replicate]
        omega
      · rw [upd_same, List.replicate_succ', List.map_append]
        rfl
    · rintro H1 ⟨sm, ho⟩
      refine ⟨o, _, rfl, SqL.of ho, ?_⟩
      rw [repl_all]
      exact q H1 sm
abbrev n_are_shares : List Str := ["thing", "folk", "houses", "holder"]
theorem sc_are_shares : FnScope n_are_shares ["thing", "folk", "houses"] (defScope s_are_shares) := ⟨rfl, rfl, rfl, by decide +kernel, rfl, by decide +kernel, by decide +kernel⟩
def spShares : Sp := fun vs H Q _ => ∃ (x : V) (ds : List Hd) (f n : Int), vs = [x, .int f, .int n] ∧ HsAt H x ds ∧ HouseOk f n ds ∧ ∀ H', Same H H' → Q (.bl true) H'
theorem ok_are_shares (T : Txt K mg) (c_is_holder_of : Cal CX0 P w K mg base 3 "is_holder_of" spHolderOf) (c_are_rising : Cal CX0 P w K mg base 1 "are_rising" spRising) (D : Df K mg "are_shares" s_are_shares ["thing", "folk", "houses"]) : Cal CX0 P w K mg base 4 "are_shares" spShares := by
  refine D.cal sc_are_shares (fun vs H Q E h => ?_) (fun f cdv A outer s H vs Q E hr h => ?_)
  · obtain ⟨x, ds, f, n, rfl, _⟩ := h
    rfl
  · obtain ⟨x, ds, f, n, rfl, ⟨a, xs, rfl, ha, pr⟩, ok, q⟩ := h
    have nd := sc_are_shares.nd
    refine ⟨_, pss_cons (ps_if (PW.pt (pw_or (pt_not (pt_val (pe_callB (call_isB "tuple") (by rfl) T.isinstance (by decide +kernel) (pa_cons (pv 0) (pa_cons (pe_ty "tuple" rfl T.tuple (by decide +kernel)) pa_nil))))) (pw_or (pt_not (pt_chain op_le op_le pe_int (pe_callB call_len_seq (by rfl) T.len (by decide +kernel) (pa_cons (pv 0) pa_nil)) (pe_gc rfl T.v_MOST_SHARES))) (pw_or1 (pt_cmpR op_eq (pe_op op_mod (pe_callB call_len_seq (by rfl) T.len (by decide +kernel) (pa_cons (pv 0) pa_nil)) pe_int) pe_int (nomark _)))))) (pss_one (ps_ret pe_bl)) pss_nil)
      (pss_one (ps_ret (pe_and (pe_callB (cr_all rfl) (by rfl) T.all (by decide +kernel) (pa_cons (pe_lc (own := [("holder", 3)]) (g := (gName 3)) (tt := tYes) rfl nd (pi_tup (pv 0)) (blkOk_by (N := n_are_shares) (sc := defScope s_are_shares) (by decide +kernel)) (fun _ _ _ _ _ => (pg_name (i := 3) nd rfl (Or.inl rfl))) (fun _ _ _ _ _ => pts_nil) (fun _ _ _ _ _ => (pe_cal c_is_holder_of hr (by decide) (by rfl) (pa_cons (pv 3) (pa_cons (pv 1) (pa_cons (pv 2) pa_nil)))))) pa_nil)) (pe_one (pe_cal c_are_rising hr (by decide) (by rfl) (pa_cons (pv 0) pa_nil)))))), ?_⟩
    have lp := pr.length
    have l15 := ok.len
    have odd := ok.odd
    refine ⟨_, rfl, _, _, _, rfl, ty_tup ha, kb_tuple_tuple, true, rfl, iteF ?_⟩
    refine ⟨_, rfl, a, xs, rfl, .inr (SqT.of ha), 1, _, rfl, rfl, _, rfl, ?_⟩
    rw [decide_eq_true (show (1 : Int) ≤ xs.length by omega)]
    refine iteT ⟨_, 15, rfl, rfl, _, rfl, ?_⟩
    rw [decide_eq_true (show (xs.length : Int) ≤ 15 by omega)]
    refine iteF ⟨_, rfl, a, xs, rfl, .inr (SqT.of ha), _, 2, rfl, rfl, (by show (0 : Int) < 2; decide), rfl, _, rfl, ite2 (fun e => ?_) (fun _ => ?_)⟩
    · have e := V.int.inj (of_decide_eq_true e)
      omega
    refine ⟨_, rfl, a, rfl, ⟨_, SqT.of ha⟩, fun o no => ?_⟩
    refine lc_tup (a := a) (xs := xs) (fun i H1 => Same H H1 ∧ H1 o = some (.lst ((List.replicate i true).map V.bl))) ⟨same_upd no, upd_same⟩ (fun i H1 _ ⟨e, _⟩ => SqT.of (e _ _ ha)) ?_ ?_
    · rintro i x H1 hi ⟨sm, ho⟩
      have hil := (List.getElem?_eq_some_iff.mp hi).1
      obtain ⟨d, hd, hat⟩ := paired_at pr hi
      refine ⟨rfl, tyes ?_⟩
      refine ⟨_, rfl, _, rfl, _, rfl, x, d, f, n, rfl, hat.ts (TS.of sm), ok.ok d (List.mem_of_getElem? hd), ?_⟩
      refine ⟨_, ho, ?_, same_written sm no, ?_⟩
      · have := sizeBig
        rw [List.length_map, List.length_replicate]
        omega
      · rw [upd_same, List.replicate_succ', List.map_append]
        rfl
    · rintro H1 ⟨sm, ho⟩
      refine ⟨o, _, rfl, SqL.of ho, ?_⟩
      rw [repl_all]
      refine ⟨true, rfl, iteT ⟨_, rfl, .ref a, ds, rfl, ⟨a, xs, rfl, sm _ _ ha, paired_ts (fun _ _ q => q.ts (TS.of sm)) pr⟩, by omega, ok.asc, fun H2 sm2 => q H2 (sm.trans sm2)⟩⟩
abbrev n_are_ascending : List Str := ["things", "at"]
theorem sc_are_ascending : FnScope n_are_ascending ["things"] (defScope s_are_ascending) := ⟨rfl, rfl, rfl, by decide +kernel, rfl, by decide +kernel, by decide +kernel⟩
def spAscending : Sp := fun vs H Q _ => ∃ (x : V) (lot : List Int), vs = [x] ∧ RowAt H x lot ∧ lot.length ≤ 1000 ∧ lot.Pairwise (· < ·) ∧ ∀ H', Same H H' → Q (.bl true) H'
theorem ok_are_ascending (T : Txt K mg) (D : Df K mg "are_ascending" s_are_ascending ["things"]) : Cal CX0 P w K mg base 1 "are_ascending" spAscending := by
  refine D.cal sc_are_ascending (fun vs H Q E h => ?_) (fun f cdv A outer s H vs Q E hr h => ?_)
  · obtain ⟨x, ds, rfl, _⟩ := h
    rfl
  · obtain ⟨x, ns, rfl, ⟨a, rfl, ha⟩, hl, asc, q⟩ := h
    have nd := sc_are_ascending.nd
    refine ⟨_, pss_one (ps_ret (pe_callB (cr_all rfl) (by rfl) T.all (by decide +kernel) (pa_cons (pe_lc (own := [("at", 1)]) (g := (gName 1)) (tt := tYes) rfl nd (pi_range2 (by rfl) T.range (pa_cons pe_int (pa_cons (pe_callB call_len_seq (by rfl) T.len (by decide +kernel) (pa_cons (pv 0) pa_nil)) pa_nil))) (blkOk_by (N := n_are_ascending) (sc := defScope s_are_ascending) (by decide +kernel)) (fun _ _ _ _ _ => (pg_name (i := 1) nd rfl (Or.inl rfl))) (fun _ _ _ _ _ => pts_nil) (fun _ _ _ _ _ => (pe_cmpR op_lt (pe_ix (ix_tupK K) (pv 0) (pe_op op_sub (pv 1) pe_int) (fun _ _ => rfl)) (pe_ix (ix_tupK K) (pv 0) (pv 1) (fun _ _ => rfl)) (nomark _)))) pa_nil))), ?_⟩
    refine ⟨_, rfl, a, _, rfl, .inr (SqT.of ha), 1, _, rfl, ⟨by omega, by omega, by omega, by rw [List.length_map]; omega⟩, fun o no => ?_⟩
    refine lc_range (lo := 1) (n := (((ns.map V.int).length : Int) - 1).toNat) (fun i H1 => Same H H1 ∧ H1 o = some (.lst ((List.replicate i true).map V.bl))) ⟨same_upd no, upd_same⟩ ?_ ?_
    · rintro i H1 hi ⟨sm, ho⟩
      rw [List.length_map] at hi
      refine ⟨rfl, tyes ?_⟩
      have h1 : i < ns.length := by omega
      have h2 : i + 1 < ns.length := by omega
      have g1 : (ns.map V.int)[i]? = some (.int ns[i]) := by rw [List.getElem?_map, List.getElem?_eq_getElem h1]; rfl
      have g2 : (ns.map V.int)[i + 1]? = some (.int ns[i + 1]) := by rw [List.getElem?_map, List.getElem?_eq_getElem h2]; rfl
      have le : ns[i] < ns[i + 1] := List.pairwise_iff_getElem.mp asc i (i + 1) h1 h2 (by omega)
      refine ⟨_, rfl, _, rfl, _, 1, rfl, rfl, a, _, _, _, rfl, rfl, SqT.of (sm _ _ ha), at_of (j := i) (by omega) g1, _, rfl, _, rfl, a, _, _, _, rfl, rfl, SqT.of (sm _ _ ha), at_of (j := i + 1) (by omega) g2, _, _, rfl, rfl, ?_⟩
      dsimp only
      rw [decide_eq_true le]
      refine ⟨_, ho, ?_, same_written sm no, ?_⟩
      · have := sizeBig
        rw [List.length_map, List.length_replicate]
        omega
      · rw [upd_same, List.replicate_succ', List.map_append]
        rfl
    · rintro H1 ⟨sm, ho⟩
      refine ⟨o, _, rfl, SqL.of ho, ?_⟩
      rw [repl_all]
      exact q H1 sm
abbrev n_is_lot : List Str := ["folk", "thing", "person"]
theorem sc_is_lot : FnScope n_is_lot ["folk", "thing"] (defScope s_is_lot) := ⟨rfl, rfl, rfl, by decide +kernel, rfl, by decide +kernel, by decide +kernel⟩
def spIsLot : Sp := fun vs H Q _ => ∃ (f : Int) (x : V) (lot : List Int), vs = [.int f, x] ∧ RowAt H x lot ∧ lot.length ≤ 1000 ∧ LotOk f lot ∧ ∀ H', Same H H' → Q (.bl true) H'
theorem ok_is_lot (T : Txt K mg) (c_is_within : Cal CX0 P w K mg base 2 "is_within" spIsWithin) (c_are_ascending : Cal CX0 P w K mg base 1 "are_ascending" spAscending) (D : Df K mg "is_lot" s_is_lot ["folk", "thing"]) : Cal CX0 P w K mg base 3 "is_lot" spIsLot := by
  refine D.cal sc_is_lot (fun vs H Q E h => ?_) (fun f cdv A outer s H vs Q E hr h => ?_)
  · obtain ⟨f, x, lot, rfl, _⟩ := h
    rfl
  · obtain ⟨f, x, ns, rfl, ⟨a, rfl, ha⟩, hl, ok, q⟩ := h
    have nd := sc_is_lot.nd
    refine ⟨_, pss_cons (ps_if (PW.pt (pw_or (pt_not (pt_val (pe_callB (call_isB "tuple") (by rfl) T.isinstance (by decide +kernel) (pa_cons (pv 1) (pa_cons (pe_ty "tuple" rfl T.tuple (by decide +kernel)) pa_nil))))) (pw_or1 (pt_not (pt_val (pe_callB (cr_all rfl) (by rfl) T.all (by decide +kernel) (pa_cons (pe_lc (own := [("person", 2)]) (g := (gName 2)) (tt := tYes) rfl nd (pi_tup (pv 1)) (blkOk_by (N := n_is_lot) (sc := defScope s_is_lot) (by decide +kernel)) (fun _ _ _ _ _ => (pg_name (i := 2) nd rfl (Or.inl rfl))) (fun _ _ _ _ _ => pts_nil) (fun _ _ _ _ _ => (pe_cal c_is_within hr (by decide) (by rfl) (pa_cons (pv 2) (pa_cons pe_int (pa_cons (pe_op op_sub (pv 0) pe_int) pa_nil)))))) pa_nil))))))) (pss_one (ps_ret pe_bl)) pss_nil)
      (pss_one (ps_ret (pe_cal c_are_ascending hr (by decide) (by rfl) (pa_cons (pv 1) pa_nil)))), ?_⟩
    refine ⟨_, rfl, _, _, _, rfl, ty_tup ha, kb_tuple_tuple, true, rfl, iteF ?_⟩
    refine ⟨_, rfl, a, rfl, ⟨_, SqT.of ha⟩, fun o no => ?_⟩
    refine lc_tup (a := a) (xs := ns.map V.int) (fun i H1 => Same H H1 ∧ H1 o = some (.lst ((List.replicate i true).map V.bl))) ⟨same_upd no, upd_same⟩ (fun i H1 _ ⟨e, _⟩ => SqT.of (e _ _ ha)) ?_ ?_
    · rintro i x H1 hi ⟨sm, ho⟩
      have hil := (List.getElem?_eq_some_iff.mp hi).1
      rw [List.length_map] at hil
      rw [List.getElem?_map] at hi
      obtain ⟨k, hk, rfl⟩ := Option.map_eq_some_iff.mp hi
      obtain ⟨h0, h1⟩ := ok.bnd k (List.mem_of_getElem? hk)
      refine ⟨rfl, tyes ?_⟩
      refine ⟨_, rfl, _, rfl, f, 1, rfl, rfl, k, 0, f - 1, rfl, ?_⟩
      rw [decide_eq_true h0, decide_eq_true (show k ≤ f - 1 by omega)]
      refine ⟨_, ho, ?_, same_written sm no, ?_⟩
      · have := sizeBig
        rw [List.length_map, List.length_replicate]
        omega
      · rw [upd_same, List.replicate_succ', List.map_append]
        rfl
    · rintro H1 ⟨sm, ho⟩
      refine ⟨o, _, rfl, SqL.of ho, ?_⟩
      rw [repl_all]
      refine ⟨true, rfl, iteF ⟨_, rfl, .ref a, ns, rfl, ⟨a, rfl, sm _ _ ha⟩, hl, ok.asc, fun H2 sm2 => q H2 (sm.trans sm2)⟩⟩
end
end K23
/-! Shares counted: by folk in a list, by houses in a dict. -/
namespace K23
open PySem PySem.Spec PyProof.Rows L2
def hIn (S : List Int) : Hd → Bool
  | .f _ => false
  | .h j => decide (j ∈ S)
def fIn (lot : List Int) : Hd → Bool
  | .f k => decide (k ∈ lot)
  | .h _ => false
theorem ours_split (lot S : List Int) : ∀ ds : List Hd, (ds.filter (Hd.ours lot S)).length = (ds.filter (fIn lot)).length + (ds.filter (hIn S)).length
  | [] => rfl
  | d :: ds => by
    have ih := ours_split lot S ds
    cases d with
    | f k =>
      have e1 : hIn S (.f k) = false := rfl
      have e2 : Hd.ours lot S (.f k) = fIn lot (.f k) := rfl
      rw [List.filter_cons, List.filter_cons, List.filter_cons, e1, e2]
      cases fIn lot (.f k) <;> simp <;> omega
    | h j =>
      have e1 : fIn lot (.h j) = false := rfl
      have e2 : Hd.ours lot S (.h j) = hIn S (.h j) := rfl
      rw [List.filter_cons, List.filter_cons, List.filter_cons, e1, e2]
      cases hIn S (.h j) <;> simp <;> omega
def cnt (ds : List Hd) (k : Int) : Int := ((ds.filter fun d => decide (d = .f k)).length : Nat)
theorem fIn_cons (k : Int) (lot : List Int) (hk : k ∉ lot) : ∀ ds : List Hd, (ds.filter (fIn (k :: lot))).length = (ds.filter fun d => decide (d = .f k)).length + (ds.filter (fIn lot)).length
  | [] => rfl
  | d :: ds => by
    have ih := fIn_cons k lot hk ds
    cases d with
    | h j =>
      have e1 : fIn lot (.h j) = false := rfl
      have e2 : fIn (k :: lot) (.h j) = false := rfl
      have e3 : decide ((Hd.h j) = .f k) = false := decide_eq_false (fun z => nomatch z)
      rw [List.filter_cons, List.filter_cons, List.filter_cons, e1, e2, e3]
      simpa using ih
    | f j =>
      by_cases e : j = k
      · subst e
        have e1 : fIn lot (.f j) = false := decide_eq_false hk
        have e2 : fIn (j :: lot) (.f j) = true := decide_eq_true List.mem_cons_self
        have e3 : decide ((Hd.f j) = .f j) = true := decide_eq_true rfl
        rw [List.filter_cons, List.filter_cons, List.filter_cons, e1, e2, e3]
        simp
        omega
      · have e2 : fIn (k :: lot) (.f j) = fIn lot (.f j) := by
          show decide (j ∈ k :: lot) = decide (j ∈ lot)
          by_cases z : j ∈ lot
          · rw [decide_eq_true z, decide_eq_true (List.mem_cons_of_mem _ z)]
          · rw [decide_eq_false z, decide_eq_false fun y => (List.mem_cons.mp y).elim e z]
        have e3 : decide ((Hd.f j) = .f k) = false := decide_eq_false (fun z => e (Hd.f.inj z))
        rw [List.filter_cons, List.filter_cons, List.filter_cons, e2, e3]
        cases fIn lot (.f j) <;> simp <;> omega
theorem lot_sum (ds : List Hd) : ∀ lot : List Int, lot.Nodup → (lot.map (cnt ds)).sum = ((ds.filter (fIn lot)).length : Nat)
  | [], _ => by
    have : ds.filter (fIn []) = [] := by
      rw [List.filter_eq_nil_iff]
      intro d _
      cases d <;> simp [fIn]
    rw [this]
    rfl
  | k :: lot, hn => by
    rw [List.nodup_cons] at hn
    rw [List.map_cons, List.sum_cons, lot_sum ds lot hn.2, fIn_cons k lot hn.1 ds]
    unfold cnt
    omega
/-! ### shares of houses -/
def sumS (os : List (Int × Int)) (S : List Int) : Int := ((os.filter fun q => decide (q.1 ∈ S)).map (·.2)).sum
def Own (os : List (Int × Int)) (ds : List Hd) : Prop := ∀ S, sumS os S = ((ds.filter (hIn S)).length : Nat)
def getO : List (Int × Int) → Int → Int
  | [], _ => 0
  | q :: r, n => if q.1 = n then q.2 else getO r n
def putO : List (Int × Int) → Int → Int → List (Int × Int)
  | [], n, v => [(n, v)]
  | q :: r, n, v => if q.1 = n then (n, v) :: r else q :: putO r n v
theorem sumS_cons (q : Int × Int) (r : List (Int × Int)) (S : List Int) : sumS (q :: r) S = (if q.1 ∈ S then q.2 else 0) + sumS r S := by
  unfold sumS
  rw [List.filter_cons]
  by_cases e : q.1 ∈ S
  · rw [if_pos e, decide_eq_true e, if_pos rfl, List.map_cons, List.sum_cons]
  · rw [if_neg e, decide_eq_false e, if_neg Bool.false_ne_true, Int.zero_add]
theorem sumS_put (S : List Int) (n : Int) : ∀ os : List (Int × Int), sumS (putO os n (getO os n + 1)) S = sumS os S + if n ∈ S then 1 else 0
  | [] => by
    show sumS [(n, 0 + 1)] S = _
    rw [sumS_cons]
    show (if n ∈ S then (0 + 1 : Int) else 0) + 0 = 0 + _
    split <;> rfl
  | q :: r => by
    have ih := sumS_put S n r
    by_cases e : q.1 = n
    · have e1 : getO (q :: r) n = q.2 := if_pos e
      have e2 : putO (q :: r) n (getO (q :: r) n + 1) = (n, getO (q :: r) n + 1) :: r := if_pos e
      rw [e2, e1, sumS_cons, sumS_cons, e]
      show (if n ∈ S then q.2 + 1 else 0) + sumS r S = _
      split <;> omega
    · have e1 : getO (q :: r) n = getO r n := if_neg e
      have e2 : putO (q :: r) n (getO (q :: r) n + 1) = q :: putO r n (getO (q :: r) n + 1) := if_neg e
      rw [e2, e1, sumS_cons, sumS_cons, ih]
      omega
theorem own_nil : Own [] [] := fun S => rfl
theorem own_h {os : List (Int × Int)} {ds : List Hd} (h : Own os ds) (n : Int) : Own (putO os n (getO os n + 1)) (ds ++ [.h n]) := fun S => by
  rw [sumS_put, h S, List.filter_append, List.length_append]
  have e : hIn S (.h n) = decide (n ∈ S) := rfl
  rw [List.filter_cons, e]
  by_cases z : n ∈ S
  · rw [if_pos z, decide_eq_true z]
    simp
  · rw [if_neg z, decide_eq_false z]
    simp
theorem own_f {os : List (Int × Int)} {ds : List Hd} (h : Own os ds) (k : Int) : Own os (ds ++ [.f k]) := fun S => by
  rw [h S, List.filter_append]
  have e : [Hd.f k].filter (hIn S) = [] := rfl
  rw [e, List.append_nil]
theorem sumS_perm {os ps : List (Int × Int)} (h : ps.Perm os) (S : List Int) : sumS ps S = sumS os S := by
  induction h with
  | nil => rfl
  | cons x _ ih => rw [sumS_cons, sumS_cons, ih]
  | swap x y l =>
    rw [sumS_cons, sumS_cons, sumS_cons, sumS_cons]
    omega
  | trans _ _ h1 h2 => rw [h1, h2]
theorem Own.perm {os ps : List (Int × Int)} {ds : List Hd} (h : Own os ds) (p : ps.Perm os) : Own ps ds := fun S => by rw [sumS_perm p]; exact h S
/-- the keys are told apart -/
def KN (os : List (Int × Int)) : Prop := (os.map (·.1)).Nodup
theorem keys_put (n v : Int) : ∀ os : List (Int × Int), (putO os n v).map (·.1) = if n ∈ os.map (·.1) then os.map (·.1) else os.map (·.1) ++ [n]
  | [] => rfl
  | q :: r => by
    have ih := keys_put n v r
    by_cases e : q.1 = n
    · have e2 : putO (q :: r) n v = (n, v) :: r := if_pos e
      rw [e2, List.map_cons, List.map_cons, e, if_pos List.mem_cons_self]
    · have e2 : putO (q :: r) n v = q :: putO r n v := if_neg e
      rw [e2, List.map_cons, List.map_cons, ih]
      by_cases z : n ∈ r.map (·.1)
      · rw [if_pos z, if_pos (List.mem_cons_of_mem _ z)]
      · rw [if_neg z, if_neg fun y => (List.mem_cons.mp y).elim (fun x => e x.symm) z]
        rfl
theorem KN.put {os : List (Int × Int)} (h : KN os) (n v : Int) : KN (putO os n v) := by
  unfold KN at h ⊢
  rw [keys_put]
  split
  · exact h
  · rename_i z
    rw [List.nodup_append]
    refine ⟨h, by simp, fun a ha b hb => ?_⟩
    rw [List.mem_singleton.mp hb]
    intro e
    rw [e] at ha
    exact z ha
theorem length_putO (n v : Int) : ∀ os : List (Int × Int), (putO os n v).length ≤ os.length + 1
  | [] => Nat.le_refl _
  | q :: r => by
    have ih := length_putO n v r
    by_cases e : q.1 = n
    · have e2 : putO (q :: r) n v = (n, v) :: r := if_pos e
      rw [e2, List.length_cons, List.length_cons]
      omega
    · have e2 : putO (q :: r) n v = q :: putO r n v := if_neg e
      rw [e2, List.length_cons, List.length_cons]
      omega
theorem inl_dec (a b : Int) : decide ((Sum.inl a : Key) = Sum.inl b) = decide (a = b) := by
  by_cases e : a = b
  · rw [e, decide_eq_true rfl, decide_eq_true rfl]
  · rw [decide_eq_false e, decide_eq_false fun z => e (Sum.inl.inj z)]
theorem val_ent (n : Int) : ∀ os : List (Int × Int), (valV (os.map entI) (Sum.inl n)).getD (.int 0) = .int (getO os n)
  | [] => rfl
  | q :: r => by
    have ih := val_ent n r
    unfold valV at ih ⊢
    rw [List.map_cons, List.find?_cons]
    show (Option.map _ (match decide ((Sum.inl q.1 : Key) = Sum.inl n) with | true => some (entI q) | false => _)).getD _ = _
    rw [inl_dec]
    by_cases e : q.1 = n
    · rw [decide_eq_true e]
      show V.int q.2 = _
      rw [show getO (q :: r) n = q.2 from if_pos e]
    · rw [decide_eq_false e, show getO (q :: r) n = getO r n from if_neg e]
      exact ih
theorem put_off (n : Int) (v : V) : ∀ r : List (Int × Int), n ∉ r.map (·.1) → (r.map entI).map (fun kv => if kv.1 = (Sum.inl n : Key) then (kv.1, v) else kv) = r.map entI
  | [], _ => rfl
  | q :: r, h => by
    rw [List.map_cons, List.map_cons, put_off n v r fun z => h (List.mem_cons_of_mem _ z)]
    have : ¬ (entI q).1 = (Sum.inl n : Key) := fun z => h (by rw [← Sum.inl.inj z]; exact List.mem_cons_self)
    rw [if_neg this]
theorem any_off (n : Int) : ∀ r : List (Int × Int), n ∉ r.map (·.1) → ((r.map entI).any fun kv => decide (kv.1 = (Sum.inl n : Key))) = false
  | [], _ => rfl
  | q :: r, h => by
    rw [List.map_cons, List.any_cons, any_off n r fun z => h (List.mem_cons_of_mem _ z)]
    have : decide ((entI q).1 = (Sum.inl n : Key)) = false := decide_eq_false fun z => h (by rw [← Sum.inl.inj z]; exact List.mem_cons_self)
    rw [this]
    rfl
theorem put_ent (n v : Int) : ∀ os : List (Int × Int), KN os → putK (os.map entI) (Sum.inl n) (.int v) = (putO os n v).map entI
  | [], _ => rfl
  | q :: r, h => by
    have h' := List.nodup_cons.mp (show (q.1 :: r.map (·.1)).Nodup from h)
    by_cases e : q.1 = n
    · have e2 : putO (q :: r) n v = (n, v) :: r := if_pos e
      unfold putK
      have a : ((q :: r).map entI).any (fun kv => decide (kv.1 = (Sum.inl n : Key))) = true := by
        rw [List.map_cons, List.any_cons]
        have : decide ((entI q).1 = (Sum.inl n : Key)) = true := decide_eq_true (by rw [← e]; rfl)
        rw [this, Bool.true_or]
      rw [if_pos a, e2, List.map_cons, List.map_cons, put_off n _ r (by rw [← e]; exact h'.1), List.map_cons]
      have : (entI q).1 = (Sum.inl n : Key) := by rw [← e]; rfl
      rw [if_pos this, this]
      rfl
    · have e2 : putO (q :: r) n v = q :: putO r n v := if_neg e
      have ih := put_ent n v r h'.2
      have ne : ¬ (entI q).1 = (Sum.inl n : Key) := fun z => e (Sum.inl.inj z)
      rw [e2, List.map_cons, List.map_cons, ← ih]
      unfold putK
      rw [List.any_cons, decide_eq_false ne, Bool.false_or, List.map_cons, if_neg ne]
      split <;> rfl
end K23
/-! What the top has written. -/
namespace K23
open PySem PySem.Spec PyProof.Rows L2
theorem df_mk {K : PySem.W.Frag} {h : Heap} {mg : Str → Option Value} {x : Str} {st : Stmt} {ps : List Str} {f : Addr} {oc kV dc pm cd ct : Value} {od an : Option Addr} {sl : Array (Option Value)} (X : K.In h) (G : h.Ns mainGlobals mg)
    (a : PySem.W.nsIn K mainGlobals x = some (some (.ref f))) (l : K.lookup f = some ⟨oc, od, .func (PySem.W.fnOf x x (defArgs st) (defBody st) (defScope st) .none kV dc pm an cd ct), sl⟩)
    (c : PySem.W.codeIn K cd x = true) (k : PySem.W.keepIn K (.ref f) = true)
    (b : ∀ (kV doc pm : Value) (an : Option Addr) (cdv ct : Value) (us : List Value), us.length = ps.length → bindArgs (PySem.W.fnOf x x (defArgs st) (defBody st) (defScope st) .none kV doc pm an cdv ct) ⟨us, []⟩ = pure (ps.zip us)) : Df K mg x st ps :=
  ⟨⟨f, _, fun_mk l c k, PySem.W.mg_of X G a, .all (b _ _ _ _ _ _)⟩⟩
theorem txt_mk {K : PySem.W.Frag} {h : Heap} {mg : Str → Option Value} (X : K.In h) (G : h.Ns mainGlobals mg)
    (t1 : PySem.W.nsIn K mainGlobals "isinstance" = some none) (t2 : PySem.W.nsIn K mainGlobals "int" = some none) (t3 : PySem.W.nsIn K mainGlobals "bool" = some none) (t4 : PySem.W.nsIn K mainGlobals "str" = some none)
    (t5 : PySem.W.nsIn K mainGlobals "tuple" = some none) (t6 : PySem.W.nsIn K mainGlobals "list" = some none) (t7 : PySem.W.nsIn K mainGlobals "len" = some none) (t8 : PySem.W.nsIn K mainGlobals "all" = some none)
    (t9 : PySem.W.nsIn K mainGlobals "range" = some none) (t10 : PySem.W.nsIn K mainGlobals "enumerate" = some none) (t11 : PySem.W.nsIn K mainGlobals "sorted" = some none) (t12 : PySem.W.nsIn K mainGlobals "sum" = some none)
    (t13 : PySem.W.nsIn K mainGlobals "min" = some none) (t14 : PySem.W.nsIn K mainGlobals "abs" = some none)
    {k1 k2 k3 k4 : Tok} (v1 : PySem.W.nsIn K mainGlobals "MOST_FOLK" = some (some (.int 6 k1))) (v2 : PySem.W.nsIn K mainGlobals "MOST_HOUSES_webs" = some (some (.int 12 k2)))
    (v3 : PySem.W.nsIn K mainGlobals "MOST_SHARES" = some (some (.int 15 k3))) (v4 : PySem.W.nsIn K mainGlobals "MOST_HOUSES_carrying" = some (some (.int 12 k4))) : Txt K mg :=
  ⟨PySem.W.mg_none_of X G t1, PySem.W.mg_none_of X G t2, PySem.W.mg_none_of X G t3, PySem.W.mg_none_of X G t4, PySem.W.mg_none_of X G t5, PySem.W.mg_none_of X G t6, PySem.W.mg_none_of X G t7, PySem.W.mg_none_of X G t8, PySem.W.mg_none_of X G t9,
   PySem.W.mg_none_of X G t10, PySem.W.mg_none_of X G t11, PySem.W.mg_none_of X G t12, PySem.W.mg_none_of X G t13, PySem.W.mg_none_of X G t14,
   ⟨_, PySem.W.mg_of X G v1, ⟨_, rfl⟩⟩, ⟨_, PySem.W.mg_of X G v2, ⟨_, rfl⟩⟩, ⟨_, PySem.W.mg_of X G v3, ⟨_, rfl⟩⟩, ⟨_, PySem.W.mg_of X G v4, ⟨_, rfl⟩⟩⟩
/-- a class of webs -/
structure WCls (K : PySem.W.Frag) (C : Addr) : Prop where
  cl : Cls K C
  n1 : NoAttr K C "folk"
  n2 : NoAttr K C "houses"
  n3 : NoAttr K C "kept_folk"
  n4 : NoAttr K C "kept_houses"
  n5 : NoAttr K C "kept_half"
/-- Web and RawWeb -/
structure WebTxt (K : PySem.W.Frag) (mg : Str → Option Value) : Prop where
  ex : ∃ (C R fI fK fR : Addr) (dI dK dR : FuncData), WCls K C ∧ WCls K R ∧ Mk K C fI ∧ Mk K R fR ∧ mg "Web" = some (.ref C) ∧ mg "RawWeb" = some (.ref R) ∧ Fun K "__init__" "Web.__init__" s_Web_init fI dI ∧ Fun K "keep" "Web.keep" s_Web_keep fK dK ∧
    Fun K "__init__" "RawWeb.__init__" s_RawWeb_init fR dR ∧ Binds K dI ["self", "folk", "houses"] [] ∧ Binds K dK ["self", "folk", "houses"] [] ∧ Binds K dR ["self", "folk", "houses"] [] ∧ Meth K C "keep" fK ∧ Meth K R "keep" fK
theorem web_mk {K : PySem.W.Frag} {h : Heap} {mg : Str → Option Value} {C R f1 f2 f3 : Addr} {od1 an1 od2 an2 od3 an3 : Option Addr} {sl1 sl2 sl3 : Array (Option Value)} {oc1 kV1 dc1 pm1 cd1 ct1 oc2 kV2 dc2 pm2 cd2 ct2 oc3 kV3 dc3 pm3 cd3 ct3 : Value}
    (X : K.In h) (G : h.Ns mainGlobals mg)
    (aC : PySem.W.nsIn K mainGlobals "Web" = some (some (.ref C))) (mk : PySem.W.makesIn K C = true) (kc : PySem.W.keepIn K (.ref C) = true) (pg : PySem.W.plainGet K C Str.empty = true) (hd : PySem.W.hasDictIn K C = true) (po : PySem.W.plainOver K C = true)
    (sa : PySem.W.findIn K (.ref C) "__setattr__" = some (some (.builtin "object.__setattr__")))
    (a1 : PySem.W.findIn K (.ref C) "__init__" = some (some (.ref f1))) (i1 : PySem.W.isFn K (.ref f1) = true) (l1 : K.lookup f1 = some ⟨oc1, od1, .func (PySem.W.fnOf "__init__" "Web.__init__" (defArgs s_Web_init) (defBody s_Web_init) (defScope s_Web_init) .none kV1 dc1 pm1 an1 cd1 ct1), sl1⟩) (c1 : PySem.W.codeIn K cd1 "Web.__init__" = true) (k1 : PySem.W.keepIn K (.ref f1) = true)
    (a2 : PySem.W.findIn K (.ref C) "keep" = some (some (.ref f2))) (i2 : PySem.W.isFn K (.ref f2) = true) (l2 : K.lookup f2 = some ⟨oc2, od2, .func (PySem.W.fnOf "keep" "Web.keep" (defArgs s_Web_keep) (defBody s_Web_keep) (defScope s_Web_keep) .none kV2 dc2 pm2 an2 cd2 ct2), sl2⟩) (c2 : PySem.W.codeIn K cd2 "Web.keep" = true) (k2 : PySem.W.keepIn K (.ref f2) = true)
    (n1 : PySem.W.findIn K (.ref C) "folk" = some none) (n2 : PySem.W.findIn K (.ref C) "houses" = some none) (n3 : PySem.W.findIn K (.ref C) "kept_folk" = some none) (n4 : PySem.W.findIn K (.ref C) "kept_houses" = some none) (n5 : PySem.W.findIn K (.ref C) "kept_half" = some none)
    (aR : PySem.W.nsIn K mainGlobals "RawWeb" = some (some (.ref R))) (mkR : PySem.W.makesIn K R = true) (kcR : PySem.W.keepIn K (.ref R) = true) (pgR : PySem.W.plainGet K R Str.empty = true) (hdR : PySem.W.hasDictIn K R = true) (poR : PySem.W.plainOver K R = true)
    (saR : PySem.W.findIn K (.ref R) "__setattr__" = some (some (.builtin "object.__setattr__")))
    (r1 : PySem.W.findIn K (.ref R) "__init__" = some (some (.ref f3))) (ri1 : PySem.W.isFn K (.ref f3) = true) (rl1 : K.lookup f3 = some ⟨oc3, od3, .func (PySem.W.fnOf "__init__" "RawWeb.__init__" (defArgs s_RawWeb_init) (defBody s_RawWeb_init) (defScope s_RawWeb_init) .none kV3 dc3 pm3 an3 cd3 ct3), sl3⟩) (rc1 : PySem.W.codeIn K cd3 "RawWeb.__init__" = true) (rk1 : PySem.W.keepIn K (.ref f3) = true)
    (r2 : PySem.W.findIn K (.ref R) "keep" = some (some (.ref f2)))
    (m1 : PySem.W.findIn K (.ref R) "folk" = some none) (m2 : PySem.W.findIn K (.ref R) "houses" = some none) (m3 : PySem.W.findIn K (.ref R) "kept_folk" = some none) (m4 : PySem.W.findIn K (.ref R) "kept_houses" = some none) (m5 : PySem.W.findIn K (.ref R) "kept_half" = some none) : WebTxt K mg := by
  have F1 := fun_mk (st := s_Web_init) l1 c1 k1
  have F2 := fun_mk (st := s_Web_keep) l2 c2 k2
  have F3 := fun_mk (st := s_RawWeb_init) rl1 rc1 rk1
  have b1 := F1.binds (ps := ["self", "folk", "houses"]) fun _ _ _ _ _ _ us hl => match us, hl with | [_, _, _], _ => rfl
  have b2 := F2.binds (ps := ["self", "folk", "houses"]) fun _ _ _ _ _ _ us hl => match us, hl with | [_, _, _], _ => rfl
  have b3 := F3.binds (ps := ["self", "folk", "houses"]) fun _ _ _ _ _ _ us hl => match us, hl with | [_, _, _], _ => rfl
  exact ⟨C, R, f1, f2, f3, _, _, _, ⟨⟨pg, hd, po, sa⟩, n1, n2, n3, n4, n5⟩, ⟨⟨pgR, hdR, poR, saR⟩, m1, m2, m3, m4, m5⟩, ⟨mk, a1, i1, kc⟩, ⟨mkR, r1, ri1, kcR⟩, PySem.W.mg_of X G aC, PySem.W.mg_of X G aR, F1, F2, F3, b1, b2, b3, ⟨a2, i2, k2⟩, ⟨r2, i2, k2⟩⟩
/-- TooMany, at C; its __init__, at fI, whose cell of __class__ stands at cc -/
structure TmAt (P : Program) (K : PySem.W.Frag) (mg : Str → Option Value) (C fI cc cda : Addr) : Prop where
  gC : mg "TooMany" = some (.ref C)
  cls : ∃ nm q N bs bm sn sub ab col dd k0 k1 k2 k3 k5, K.lookup C = some (excClassObj nm q C N bs bm true sn sub ab col dd k0 k1 k2 k3 k5 "ValueError.__new__") ∧ PySem.HandSPX.refsVE bm = true
  sa : PySem.W.findIn K (.ref C) "__setattr__" = some (some (.builtin "object.__setattr__"))
  exC : PySem.W.subIn K (.ref C) (.type "BaseException") = some true
  tyC : PySem.W.typeIn K (.ref C) = some (.type "type")
  kC : PySem.W.keepIn K (.ref C) = true
  ga : PySem.W.findIn K (.ref C) "__getattribute__" = some (some (.builtin "BaseException.__getattribute__"))
  gg : PySem.W.findIn K (.ref C) "__getattr__" = some none
  hdC : PySem.W.hasDictIn K C = true
  iC : PySem.W.findIn K (.ref C) "__init__" = some (some (.ref fI))
  tC : PySem.W.typeIn K (.ref fI) = some (.type "function")
  fn : ∃ (oc : Value) (od : Option Addr) (kV doc pm : Value) (an : Option Addr) (ct : Value) (osl : Array (Option Value)),
    K.lookup fI = some ⟨oc, od, .func (PySem.W.fnX "__init__" "TooMany.__init__" (defArgs s_TooMany_init) (defBody s_TooMany_init) (defScope s_TooMany_init) [("__class__", cc)] .none kV doc pm an (.ref cda) ct), osl⟩ ∧ PySem.W.codeIn K (.ref cda) "TooMany.__init__" = true
  noN : PySem.W.findIn K (.ref C) "most" = some none
  te : PySem.W.exmOne K (.ref C) (.ref C) = some true
  cell : ∃ (cl : Value) (cld : Option Addr) (csl : Array (Option Value)), K.lookup cc = some ⟨cl, cld, .cell (some (.ref C)), csl⟩
  any : PySem.W.nsIn K cStatics "thirdparty.any" = some none
  code : ∃ (ccl : Value) (cdd : Option Addr) (vs : Array Value) (ccs : Array (Option Value)) (file : Str) (tf : Tok), K.lookup cda = some ⟨ccl, cdd, .fields vs, ccs⟩ ∧ vs[2]? = some (.str file tf) ∧ ((P.main.file : Str) == file) = true
  gs : mg "super" = none
  top : (P.main.scope.names.lookup ("super" : Str)).isSome = false
  sub : PySem.W.mroIn K C (.ref C) = some true
  subVE : PySem.W.subIn K (.ref C) (.type "ValueError") = some true
  sup : PySem.W.ks_superIn K C C "__init__" = some (some (.builtin "ValueError.__init__"))
def TmTxt (P : Program) (K : PySem.W.Frag) (mg : Str → Option Value) : Prop := ∃ C fI cc cda, TmAt P K mg C fI cc cda
theorem tm_mk {P : Program} {K : PySem.W.Frag} {h : Heap} {mg : Str → Option Value} {C fI cc cda N : Addr} {nm q : Str} {bs bm sub : List Value} {sn : List Str} {ab : Bool} {col : Option Bool} {dd od an cld cdd : Option Addr} {k0 k1 k2 k3 k5 : Option Value}
    {oc kV doc pm ct cl ccl : Value} {osl csl ccs : Array (Option Value)} {vs : Array Value} {file : Str} {tf : Tok} (X : K.In h) (G : h.Ns mainGlobals mg)
    (aC : PySem.W.nsIn K mainGlobals "TooMany" = some (some (.ref C)))
    (cls : K.lookup C = some (excClassObj nm q C N bs bm true sn sub ab col dd k0 k1 k2 k3 k5 "ValueError.__new__")) (ref : PySem.HandSPX.refsVE bm = true)
    (sa : PySem.W.findIn K (.ref C) "__setattr__" = some (some (.builtin "object.__setattr__"))) (exC : PySem.W.subIn K (.ref C) (.type "BaseException") = some true) (tyC : PySem.W.typeIn K (.ref C) = some (.type "type")) (kC : PySem.W.keepIn K (.ref C) = true)
    (ga : PySem.W.findIn K (.ref C) "__getattribute__" = some (some (.builtin "BaseException.__getattribute__"))) (gg : PySem.W.findIn K (.ref C) "__getattr__" = some none) (hdC : PySem.W.hasDictIn K C = true)
    (iC : PySem.W.findIn K (.ref C) "__init__" = some (some (.ref fI))) (tC : PySem.W.typeIn K (.ref fI) = some (.type "function"))
    (lI : K.lookup fI = some ⟨oc, od, .func (PySem.W.fnX "__init__" "TooMany.__init__" (defArgs s_TooMany_init) (defBody s_TooMany_init) (defScope s_TooMany_init) [("__class__", cc)] .none kV doc pm an (.ref cda) ct), osl⟩)
    (cI : PySem.W.codeIn K (.ref cda) "TooMany.__init__" = true) (noN : PySem.W.findIn K (.ref C) "most" = some none) (te : PySem.W.exmOne K (.ref C) (.ref C) = some true)
    (cell : K.lookup cc = some ⟨cl, cld, .cell (some (.ref C)), csl⟩) (any : PySem.W.nsIn K cStatics "thirdparty.any" = some none)
    (code : K.lookup cda = some ⟨ccl, cdd, .fields vs, ccs⟩) (cv : vs[2]? = some (.str file tf)) (cf : ((P.main.file : Str) == file) = true) (supr : PySem.W.nsIn K mainGlobals "super" = some none) (top : (P.main.scope.names.lookup ("super" : Str)).isSome = false) (sub1 : PySem.W.mroIn K C (.ref C) = some true)
    (subVE : PySem.W.subIn K (.ref C) (.type "ValueError") = some true) (sup : PySem.W.ks_superIn K C C "__init__" = some (some (.builtin "ValueError.__init__"))) : TmTxt P K mg :=
  ⟨C, fI, cc, cda, PySem.W.mg_of X G aC, ⟨_, _, _, _, _, _, _, _, _, _, _, _, _, _, _, cls, ref⟩, sa, exC, tyC, kC, ga, gg, hdC, iC, tC, ⟨_, _, _, _, _, _, _, _, lI, cI⟩, noN, te, ⟨_, _, _, cell⟩, any, ⟨_, _, _, _, _, _, code, cv, cf⟩, PySem.W.mg_none_of X G supr, top, sub1, subVE, sup⟩
theorem txt_have {K : PySem.W.Frag} {h : Heap} {mg : Str → Option Value} (_ : K.In h) (t : Txt K mg) : Txt K mg := t
theorem df_have {K : PySem.W.Frag} {h : Heap} {mg : Str → Option Value} {x : Str} {st : Stmt} {ps : List Str} (_ : K.In h) (t : Df K mg x st ps) : Df K mg x st ps := t
theorem web_have {K : PySem.W.Frag} {h : Heap} {mg : Str → Option Value} (_ : K.In h) (t : WebTxt K mg) : WebTxt K mg := t
theorem tm_have {P : Program} {K : PySem.W.Frag} {h : Heap} {mg : Str → Option Value} (_ : K.In h) (t : TmTxt P K mg) : TmTxt P K mg := t
structure Facts (P : Program) (K : PySem.W.Frag) (mg : Str → Option Value) : Prop where
  T : Txt K mg
  d_is_integer : Df K mg "is_integer" s_is_integer ["thing"]
  d_is_within : Df K mg "is_within" s_is_within ["thing", "least", "most"]
  d_is_pair : Df K mg "is_pair" s_is_pair ["thing"]
  d_are_ascending : Df K mg "are_ascending" s_are_ascending ["things"]
  d_are_rising : Df K mg "are_rising" s_are_rising ["things"]
  d_check_many : Df K mg "check_many" s_check_many ["number", "most"]
  d_is_holder_of : Df K mg "is_holder_of" s_is_holder_of ["thing", "folk", "houses"]
  d_are_shares : Df K mg "are_shares" s_are_shares ["thing", "folk", "houses"]
  d_raw_web : Df K mg "raw_web" s_raw_web ["folk", "houses"]
  d_is_house : Df K mg "is_house" s_is_house ["web", "thing"]
  d_check_house : Df K mg "check_house" s_check_house ["web", "thing"]
  d_is_lot : Df K mg "is_lot" s_is_lot ["folk", "thing"]
  d_check_lot : Df K mg "check_lot" s_check_lot ["web", "thing"]
  d_shares_with : Df K mg "shares_with" s_shares_with ["web", "house", "lot", "houses"]
  d_has_half : Df K mg "has_half" s_has_half ["web", "house", "lot", "houses"]
  d_carried_of : Df K mg "carried_of" s_carried_of ["web", "lot"]
  d_check_lot_and_house : Df K mg "check_lot_and_house" s_check_lot_and_house ["web", "lot", "house"]
  d_row : Df K mg "row" s_row ["web", "lot", "house"]
  d_longer_rows : Df K mg "longer_rows" s_longer_rows ["web", "lot", "rows"]
  d_shortest_row : Df K mg "shortest_row" s_shortest_row ["web", "lot", "house"]
  d_shifted : Df K mg "shifted" s_shifted ["houses", "by"]
  d_check_match : Df K mg "check_match" s_check_match ["one", "other"]
  d_beside : Df K mg "beside" s_beside ["one", "other"]
  d_law_pool : Df K mg "_law_pool" s_law_pool ["_law_script"]
  d_law_draw : Df K mg "_law_draw" s_law_draw ["_law_pool_here", "_law_many"]
  d_law_some : Df K mg "_law_some" s_law_some ["_law_pool_here", "_law_things"]
  d_law_mixed : Df K mg "_law_mixed" s_law_mixed ["_law_pool_here", "_law_things"]
  d_law_integer : Df K mg "_law_integer" s_law_integer ["_law_thing"]
  d_law_same : Df K mg "_law_same" s_law_same ["_law_actual", "_law_expected"]
  d_law_holder : Df K mg "_law_holder" s_law_holder ["_law_pool_here", "_law_folk", "_law_houses", "_law_lean"]
  d_law_parts : Df K mg "_law_parts" s_law_parts ["_law_pool_here", "_law_least"]
  d_law_has_half : Df K mg "_law_has_half" s_law_has_half ["_law_parts_here", "_law_house", "_law_lot_here", "_law_houses"]
  d_law_layers : Df K mg "_law_layers" s_law_layers ["_law_parts_here", "_law_lot_here"]
  d_law_lot : Df K mg "_law_lot" s_law_lot ["_law_pool_here", "_law_folk"]
  d_law_row_fault : Df K mg "_law_row_fault" s_law_row_fault ["_law_parts_here", "_law_lot_here", "_law_house", "_law_thing"]
  d_law_carried : Df K mg "_law_carried" s_law_carried ["_law_parts_here", "_law_lot_here"]
  d_law_least_row : Df K mg "_law_least_row" s_law_least_row ["_law_parts_here", "_law_lot_here", "_law_house"]
  d_law_least_by_lots : Df K mg "_law_least_by_lots" s_law_least_by_lots ["_law_parts_here", "_law_lot_here", "_law_house"]
  d_law_depth : Df K mg "_law_depth" s_law_depth ["_law_parts_here", "_law_lot_here", "_law_house"]
  d_law_great_right : Df K mg "_law_great_right" s_law_great_right ["_law_parts_here", "_law_web", "_law_lot_here", "_law_house"]
  d_law_deep_parts : Df K mg "_law_deep_parts" s_law_deep_parts ["_law_pool_here"]
  d_law_chain_right : Df K mg "_law_chain_right" s_law_chain_right ["_law_pool_here"]
  d_law_too_many : Df K mg "_law_too_many" s_law_too_many ["_law_parts_here", "_law_web", "_law_lot_here"]
  web : WebTxt K mg
  tm : TmTxt P K mg
end K23
/-! Webs. -/
namespace K23
open PySem PySem.Spec PyProof.Rows L2
def halfN (ds : List Hd) : Int := ((ds.length : Int) + 1) / 2
/-- the kept shares of folk; of houses -/
def KfAt (ok : Addr → Prop) (H : Hp) (folk : Int) (x : V) (ds : List Hd) : Prop := ∃ (q : Addr) (ns : List Int), x = .ref q ∧ ok q ∧ H q = some (.lst (ns.map V.int)) ∧ ∀ k : Int, 0 ≤ k → k < folk → ns[k.toNat]? = some (cnt ds k)
def KhAt (ok : Addr → Prop) (H : Hp) (x : V) (ds : List Hd) : Prop := ∃ (q : Addr) (xs : List V) (os : List (Int × Int)), x = .ref q ∧ ok q ∧ H q = some (.lst xs) ∧ Paired (PairAt H) xs os ∧ Own os ds ∧ os.length ≤ 1000
/-- what stands at ok stays -/
def Keeps (ok : Addr → Prop) (H H' : Hp) : Prop := (∀ b o, ok b → H b = some o → H' b = some o) ∧ TS H H'
theorem PairAt.ts {H H' : Hp} {x : V} {q : Int × Int} (h : PairAt H x q) (k : TS H H') : PairAt H' x q := by
  obtain ⟨t, e, h⟩ := h
  exact ⟨t, e, k _ _ h⟩
theorem KfAt.keep {ok ok' : Addr → Prop} {H H' : Hp} {folk : Int} {x : V} {ds : List Hd} (h : KfAt ok H folk x ds) (k : ∀ b o, ok b → H b = some o → H' b = some o) (w : ∀ b, ok b → ok' b) : KfAt ok' H' folk x ds := by
  obtain ⟨q, ns, e, o, hq, r⟩ := h
  exact ⟨q, ns, e, w _ o, k _ _ o hq, r⟩
theorem KhAt.keep {ok ok' : Addr → Prop} {H H' : Hp} {x : V} {ds : List Hd} (h : KhAt ok H x ds) (k : ∀ b o, ok b → H b = some o → H' b = some o) (w : ∀ b, ok b → ok' b) (ts : TS H H') : KhAt ok' H' x ds := by
  obtain ⟨q, xs, os, e, o, hq, p, r⟩ := h
  exact ⟨q, xs, os, e, w _ o, k _ _ o hq, paired_ts (fun _ _ z => PairAt.ts z ts) p, r⟩
/-- a web of these folk and houses -/
def WebAt (K : PySem.W.Frag) (ok : Addr → Prop) (H : Hp) (x : V) (folk : Int) (hs : List (List Hd)) : Prop :=
  ∃ (a C dx : Addr) (fs : List (Str × V)) (y : V) (kf kh kl : Addr) (xf xh : List V), x = .ref a ∧ ok a ∧ H a = some (.ins C dx fs) ∧ WCls K C ∧
    fs.lookup ("folk" : Str) = some (.int folk) ∧ fs.lookup ("houses" : Str) = some y ∧ fs.lookup ("kept_folk" : Str) = some (.ref kf) ∧ fs.lookup ("kept_houses" : Str) = some (.ref kh) ∧ fs.lookup ("kept_half" : Str) = some (.ref kl) ∧
    WsAt H y hs ∧ ok kf ∧ ok kh ∧ ok kl ∧ H kf = some (.lst xf) ∧ H kh = some (.lst xh) ∧ H kl = some (.lst (hs.map fun ds => V.int (halfN ds))) ∧ Paired (KfAt ok H folk) xf hs ∧ Paired (KhAt ok H) xh hs
theorem WebAt.keep {K : PySem.W.Frag} {ok : Addr → Prop} {H H' : Hp} {x : V} {folk : Int} {hs : List (List Hd)} (h : WebAt K ok H x folk hs) (k : Keeps ok H H') : WebAt K ok H' x folk hs := by
  obtain ⟨a, C, dx, fs, y, kf, kh, kl, xf, xh, e, oa, ha, c, f1, f2, f3, f4, f5, ws, o1, o2, o3, h1, h2, h3, p1, p2⟩ := h
  exact ⟨a, C, dx, fs, y, kf, kh, kl, xf, xh, e, oa, k.1 _ _ oa ha, c, f1, f2, f3, f4, f5, ws.ts k.2, o1, o2, o3, k.1 _ _ o1 h1, k.1 _ _ o2 h2, k.1 _ _ o3 h3,
    paired_ts (fun _ _ q => q.keep k.1 fun _ z => z) p1, paired_ts (fun _ _ q => q.keep k.1 (fun _ z => z) k.2) p2⟩
theorem Keeps.same {ok : Addr → Prop} {H H' : Hp} (k : Same H H') : Keeps ok H H' := ⟨fun b o _ e => k b o e, TS.of k⟩
theorem Keeps.fr2 {p c : Addr} {H H' : Hp} (P : PoolAt H p c) (k : Fr2 p c H H') : Keeps (fun b => b ≠ p ∧ b ≠ c) H H' := ⟨fun b o n e => k b o n.1 n.2 e, TS.fr2 P k⟩
theorem cnt_f (ds : List Hd) (j k : Int) : cnt (ds ++ [.f j]) k = cnt ds k + if j = k then 1 else 0 := by
  unfold cnt
  rw [List.filter_append, List.length_append, List.filter_cons]
  by_cases e : j = k
  · rw [if_pos e, decide_eq_true (by rw [e])]
    simp
  · rw [if_neg e, decide_eq_false (fun z => e (Hd.f.inj z))]
    simp
theorem cnt_h (ds : List Hd) (j k : Int) : cnt (ds ++ [.h j]) k = cnt ds k := by
  unfold cnt
  rw [List.filter_append]
  have e : [Hd.h j].filter (fun d => decide (d = .f k)) = [] := by
    rw [List.filter_cons, decide_eq_false (fun z => nomatch z)]
    rfl
  rw [e, List.append_nil]
theorem lputF {f : Str} {v : V} {fs : List (Str × V)} {n : Nat} (h : fs.length ≤ n) : (putF f v fs).length ≤ n + 1 := Nat.le_trans (length_putF f v fs) (Nat.succ_le_succ h)
/-- a new list, then a field that holds it -/
theorem fld_step {H Hb : Hp} {a C dx k : Addr} {fs fs' : List (Str × V)} (ga : H a = some (.ins C dx fs)) (nk : H k = none) (fr : ∀ b o, b ≠ a → Hb b = some o → H b = some o) (non : ∀ b, H b = none → Hb b = none) :
    k ≠ a ∧ (upd (upd H k (.lst [])) a (.ins C dx fs')) a = some (.ins C dx fs') ∧ (upd (upd H k (.lst [])) a (.ins C dx fs')) k = some (.lst []) ∧ (∀ b o, b ≠ a → H b = some o → (upd (upd H k (.lst [])) a (.ins C dx fs')) b = some o) ∧
    (∀ b o, b ≠ a → Hb b = some o → (upd (upd H k (.lst [])) a (.ins C dx fs')) b = some o) ∧ ∀ b, (upd (upd H k (.lst [])) a (.ins C dx fs')) b = none → H b = none := by
  have nka : k ≠ a := (ne_of_none ga nk).symm
  have st : ∀ b o, b ≠ a → H b = some o → (upd (upd H k (.lst [])) a (.ins C dx fs')) b = some o := fun b o n e => by
    rw [upd_ne n, upd_ne (ne_of_none e nk)]
    exact e
  refine ⟨nka, upd_same, by rw [upd_ne nka, upd_same], st, fun b o n e => st b o n (fr b o n e), fun b e => ?_⟩
  by_cases n : b = a
  · rw [n, upd_same] at e
    cases e
  · rw [upd_ne n] at e
    by_cases n2 : b = k
    · rw [n2]
      exact nk
    · rwa [upd_ne n2] at e
theorem strs_ne : ¬ ("folk" : Str) = "houses" ∧ ¬ ("folk" : Str) = "kept_folk" ∧ ¬ ("folk" : Str) = "kept_houses" ∧ ¬ ("folk" : Str) = "kept_half" ∧ ¬ ("houses" : Str) = "kept_folk" ∧ ¬ ("houses" : Str) = "kept_houses" ∧ ¬ ("houses" : Str) = "kept_half" ∧
    ¬ ("kept_folk" : Str) = "kept_houses" ∧ ¬ ("kept_folk" : Str) = "kept_half" ∧ ¬ ("kept_houses" : Str) = "kept_half" := by decide +kernel
section
variable {P : Program} {w : World} {K : PySem.W.Frag} {mg : Str → Option Value} {base : Heap}
abbrev n_Web_keep : List Str := ["self", "folk", "houses", "house", "persons", "owners", "sign", "number", "person"]
theorem sc_Web_keep : FnScope n_Web_keep ["self", "folk", "houses"] (defScope s_Web_keep) := ⟨rfl, rfl, rfl, by decide +kernel, rfl, by decide +kernel, by decide +kernel⟩
def spKeep (K : PySem.W.Frag) : Sp := fun vs H Q _ => ∃ (a C dx : Addr) (folk : Int) (y : V) (hs : List (List Hd)) (ok : Addr → Prop), vs = [.ref a, .int folk, y] ∧ H a = some (.ins C dx []) ∧ WCls K C ∧ WsAt H y hs ∧ 0 ≤ folk ∧ folk ≤ 1000 ∧
  hs.length ≤ 1000 ∧ (∀ ds ∈ hs, ds.length ≤ 1000 ∧ ∀ k, Hd.f k ∈ ds → 0 ≤ k ∧ k < folk) ∧ ok a ∧ (∀ b, H b = none → ok b) ∧ ∀ H', WebAt K ok H' (.ref a) folk hs → (∀ b o, b ≠ a → H b = some o → H' b = some o) → Q .non H'
theorem ok_keep {f : Addr} {fd : FuncData} (T : Txt K mg) (F : Fun K "keep" "Web.keep" s_Web_keep f fd) : FnOk P w K mg base CX0 1 f fd ["self", "folk", "houses"] (spKeep K) := by
  refine F.ok sc_Web_keep (fun vs H Q E h => ?_) (fun cdv A outer s H vs Q E hr h => ?_)
  · obtain ⟨a, C, dx, folk, y, hs, ok, rfl, _⟩ := h
    rfl
  · obtain ⟨a, C, dx, folk, y, hs, ok, rfl, ha, wc, ws, f0, f1, hl, hl', oka, okn, q⟩ := h
    have hu6 := hu60 hr
    have hu := hu_of hr
    have nd := sc_Web_keep.nd
    refine ⟨_, pss_cons (ps_fld (pv 0) (pv 1) rfl)
      (pss_cons (ps_fld (pv 0) (pv 2) rfl)
      (pss_cons (ps_fld (pv 0) (pe_lst pa_nil) rfl)
      (pss_cons (ps_fld (pv 0) (pe_lst pa_nil) rfl)
      (pss_cons (ps_fld (pv 0) (pe_lst pa_nil) rfl)
      (pss_one (ps_for PassesOwn.never rfl (pi_tup (pv 2)) (pg_name (i := 3) nd rfl (Or.inl rfl))
        (pss_cons (ps_setLc (i := 4) (own := [("person", 8)]) (g := (gName 8)) (tt := tYes) rfl nd rfl rfl (sw_true rfl rfl rfl (by decide +kernel)) (pi_range1 (by rfl) T.range (pa_cons (pv 1) pa_nil)) (blkOk_by (N := n_Web_keep) (sc := defScope s_Web_keep) (by decide +kernel)) (fun _ _ _ _ _ => (pg_name (i := 8) nd rfl (Or.inl rfl))) (fun _ _ _ _ _ => pts_nil) (fun _ _ _ _ _ => pe_int))
        (pss_cons (ps_set (i := 5) nd rfl (Or.inl rfl) pe_dnewK)
        (pss_cons (ps_for PassesOwn.never rfl (pi_tup (pv 3)) (pg_tup rfl (pgs_cons (pg_name (i := 6) nd rfl (Or.inl rfl)) (pgs_cons (pg_name (i := 7) nd rfl (Or.inl rfl)) pgs_nil)))
          (pss_one (ps_if (pt_cmpR op_eq (pv 6) pe_str (nomark _)) (pss_one (ps_augS (pv 4) (pv 7) get_list pe_int ip_add set_list)) (pss_one (ps_dput hu (pv 5) (pv 7) (pe_op op_add (pe_dget2 hu (pv 5) (pv 7) pe_int ⟨rfl, rfl, rfl, rfl⟩) pe_int) rfl)))))
        (pss_cons (ps_expr (pe_bm PySem.F.plainAttrs_list PySem.F.slot_list_append PySem.F.type_list_append mt_append (pe_fld (pv 0) rfl) (pa_cons (pv 4) pa_nil)))
        (pss_cons (ps_expr (pe_bm PySem.F.plainAttrs_list PySem.F.slot_list_append PySem.F.type_list_append mt_append (pe_fld (pv 0) rfl) (pa_cons (pe_callB (cr_sortItems rfl hu6) (by rfl) T.sorted (by decide +kernel) (pa_cons (pe_bm0 PySem.F.plainAttrs_dict PySem.F.slot_dict_items PySem.F.type_dict_items mt_itemsK (pv 5)) pa_nil)) pa_nil)))
        (pss_one (ps_expr (pe_bm PySem.F.plainAttrs_list PySem.F.slot_list_append PySem.F.type_list_append mt_append (pe_fld (pv 0) rfl) (pa_cons (pe_op op_fdiv (pe_op op_add (pe_callB call_len_seq (by rfl) T.len (by decide +kernel) (pa_cons (pv 3) pa_nil)) pe_int) pe_int) pa_nil))))))))))))))), ?_⟩
    obtain ⟨wa, wvs, rfl, hwa, pw⟩ := ws
    have lw := pw.length
    have big := sizeBig
    have l0 : ([] : List (Str × V)).length < 1000 := by show 0 < 1000; decide
    -- self.folk, self.houses
    refine ⟨_, rfl, _, rfl, a, C, dx, [], rfl, ha, wc.cl, wc.n1, l0, ?_⟩
    refine ⟨_, rfl, _, rfl, a, C, dx, _, rfl, upd_same, wc.cl, wc.n2, (Nat.lt_of_le_of_lt (lputF (n := 0) (Nat.le_refl 0)) (by decide)), ?_⟩
    have hw2 : upd (upd H a (.ins C dx (putF "folk" (.int folk) []))) a (.ins C dx (putF "houses" (.ref wa) (putF "folk" (.int folk) []))) wa = some (.tup wvs) := by
      have n : wa ≠ a := ne_of hwa ha (fun z => nomatch z)
      rw [upd_ne n, upd_ne n]
      exact hwa
    have fr2 : ∀ b o, b ≠ a → H b = some o → upd (upd H a (.ins C dx (putF "folk" (.int folk) []))) a (.ins C dx (putF "houses" (.ref wa) (putF "folk" (.int folk) []))) b = some o := fun b o n e => by
      rw [upd_ne n, upd_ne n]
      exact e
    have non2 : ∀ b, upd (upd H a (.ins C dx (putF "folk" (.int folk) []))) a (.ins C dx (putF "houses" (.ref wa) (putF "folk" (.int folk) []))) b = none → H b = none := fun b e => by
      by_cases n : b = a
      · subst n
        rw [upd_same] at e
        cases e
      · rwa [upd_ne n, upd_ne n] at e
    have ga2 : upd (upd H a (.ins C dx (putF "folk" (.int folk) []))) a (.ins C dx (putF "houses" (.ref wa) (putF "folk" (.int folk) []))) a = some (.ins C dx (putF "houses" (.ref wa) (putF "folk" (.int folk) []))) := upd_same
    generalize upd (upd H a (.ins C dx (putF "folk" (.int folk) []))) a (.ins C dx (putF "houses" (.ref wa) (putF "folk" (.int folk) []))) = H2 at hw2 fr2 non2 ga2 ⊢
    -- the three lists
    obtain ⟨e12, e13, e14, e15, e23, e24, e25, e34, e35, e45⟩ := strs_ne
    have len2 : (putF "houses" (.ref wa) (putF "folk" (.int folk) [])).length ≤ 2 := lputF (lputF (n := 0) (Nat.le_refl 0))
    refine ⟨sz (by show 0 ≤ 1000000; omega), fun kf nkf => ?_⟩
    obtain ⟨nka1, ga3, g3, st3, fr3, non3⟩ := fld_step (fs' := putF "kept_folk" (.ref kf) (putF "houses" (.ref wa) (putF "folk" (.int folk) []))) ga2 nkf fr2 non2
    refine ⟨_, rfl, a, C, dx, _, rfl, (by rw [upd_ne nka1.symm]; exact ga2), wc.cl, wc.n3, Nat.lt_of_le_of_lt len2 (by decide), ?_⟩
    have hw3 := st3 _ _ (ne_of hwa ha (fun z => nomatch z)) hw2
    have non3' := fun b e => non2 b (non3 b e)
    generalize upd (upd H2 kf (.lst [])) a (.ins C dx (putF "kept_folk" (.ref kf) (putF "houses" (.ref wa) (putF "folk" (.int folk) [])))) = H3 at ga3 g3 st3 fr3 non3 hw3 non3' ⊢
    refine ⟨sz (by show 0 ≤ 1000000; omega), fun kh nkh => ?_⟩
    obtain ⟨nka2, ga4, g4, st4, fr4, non4⟩ := fld_step (fs' := putF "kept_houses" (.ref kh) (putF "kept_folk" (.ref kf) (putF "houses" (.ref wa) (putF "folk" (.int folk) [])))) ga3 nkh fr3 non3'
    refine ⟨_, rfl, a, C, dx, _, rfl, (by rw [upd_ne nka2.symm]; exact ga3), wc.cl, wc.n4, Nat.lt_of_le_of_lt (lputF len2) (by decide), ?_⟩
    have hw4 := st4 _ _ (ne_of hwa ha (fun z => nomatch z)) hw3
    have g34 := st4 _ _ nka1 g3
    have nfh : kf ≠ kh := ne_of_none g3 nkh
    have non4' := fun b e => non3' b (non4 b e)
    generalize upd (upd H3 kh (.lst [])) a (.ins C dx (putF "kept_houses" (.ref kh) (putF "kept_folk" (.ref kf) (putF "houses" (.ref wa) (putF "folk" (.int folk) []))))) = H4 at ga4 g4 st4 fr4 non4 hw4 g34 non4' ⊢
    refine ⟨sz (by show 0 ≤ 1000000; omega), fun kl nkl => ?_⟩
    obtain ⟨nka3, ga5, g5, st5, fr5, non5⟩ := fld_step (fs' := putF "kept_half" (.ref kl) (putF "kept_houses" (.ref kh) (putF "kept_folk" (.ref kf) (putF "houses" (.ref wa) (putF "folk" (.int folk) []))))) ga4 nkl fr4 non4'
    refine ⟨_, rfl, a, C, dx, _, rfl, (by rw [upd_ne nka3.symm]; exact ga4), wc.cl, wc.n5, Nat.lt_of_le_of_lt (lputF (lputF len2)) (by decide), ?_⟩
    have hw5 := st5 _ _ (ne_of hwa ha (fun z => nomatch z)) hw4
    have g35 := st5 _ _ nka1 g34
    have g45 := st5 _ _ nka2 g4
    have nfl : kf ≠ kl := ne_of_none g34 nkl
    have nhl : kh ≠ kl := ne_of_none g4 nkl
    have non5' := fun b e => non4' b (non5 b e)
    have okf : ok kf := okn _ (non2 _ nkf)
    have okh : ok kh := okn _ (non3' _ nkh)
    have okl : ok kl := okn _ (non4' _ nkl)
    have hkf : H kf = none := non2 _ nkf
    have hkh : H kh = none := non3' _ nkh
    have hkl : H kl = none := non4' _ nkl
    generalize upd (upd H4 kl (.lst [])) a (.ins C dx (putF "kept_half" (.ref kl) (putF "kept_houses" (.ref kh) (putF "kept_folk" (.ref kf) (putF "houses" (.ref wa) (putF "folk" (.int folk) [])))))) = H5 at ga5 g5 st5 fr5 non5 hw5 g35 g45 non5' ⊢
    -- the fields
    have k1 : (putF "kept_half" (.ref kl) (putF "kept_houses" (.ref kh) (putF "kept_folk" (.ref kf) (putF "houses" (.ref wa) (putF "folk" (.int folk) []))))).lookup ("folk" : Str) = some (.int folk) := by
      rw [lookup_putF, if_neg e15, lookup_putF, if_neg e14, lookup_putF, if_neg e13, lookup_putF, if_neg e12, lookup_putF, if_pos rfl]
    have k2 : (putF "kept_half" (.ref kl) (putF "kept_houses" (.ref kh) (putF "kept_folk" (.ref kf) (putF "houses" (.ref wa) (putF "folk" (.int folk) []))))).lookup ("houses" : Str) = some (.ref wa) := by
      rw [lookup_putF, if_neg e25, lookup_putF, if_neg e24, lookup_putF, if_neg e23, lookup_putF, if_pos rfl]
    have k3 : (putF "kept_half" (.ref kl) (putF "kept_houses" (.ref kh) (putF "kept_folk" (.ref kf) (putF "houses" (.ref wa) (putF "folk" (.int folk) []))))).lookup ("kept_folk" : Str) = some (.ref kf) := by
      rw [lookup_putF, if_neg e35, lookup_putF, if_neg e34, lookup_putF, if_pos rfl]
    have k4 : (putF "kept_half" (.ref kl) (putF "kept_houses" (.ref kh) (putF "kept_folk" (.ref kf) (putF "houses" (.ref wa) (putF "folk" (.int folk) []))))).lookup ("kept_houses" : Str) = some (.ref kh) := by
      rw [lookup_putF, if_neg e45, lookup_putF, if_pos rfl]
    have k5 : (putF "kept_half" (.ref kl) (putF "kept_houses" (.ref kh) (putF "kept_folk" (.ref kf) (putF "houses" (.ref wa) (putF "folk" (.int folk) []))))).lookup ("kept_half" : Str) = some (.ref kl) := by
      rw [lookup_putF, if_pos rfl]
    generalize (putF "kept_half" (.ref kl) (putF "kept_houses" (.ref kh) (putF "kept_folk" (.ref kf) (putF "houses" (.ref wa) (putF "folk" (.int folk) []))))) = fs at ga5 k1 k2 k3 k4 k5
    -- the inner lists are none of these
    have okI : ∀ b, (ok b ∧ b ≠ a ∧ b ≠ kf ∧ b ≠ kh ∧ b ≠ kl) → ok b := fun b z => z.1
    refine ⟨_, rfl, wa, rfl, ⟨_, SqT.of hw5⟩, for_tup (a := wa) (xs := wvs) (fun i σ H6 => ∃ o3 o4 o5 o6 o7 xf xh, σ = [some (.ref a), some (.int folk), some (.ref wa), o3, o4, o5, o6, o7, none] ∧ (∀ b o, b ≠ a → H b = some o → H6 b = some o) ∧ H6 a = some (.ins C dx fs) ∧
      H6 kf = some (.lst xf) ∧ H6 kh = some (.lst xh) ∧ H6 kl = some (.lst ((hs.take i).map fun ds => V.int (halfN ds))) ∧ Paired (KfAt (fun b => ok b ∧ b ≠ a ∧ b ≠ kf ∧ b ≠ kh ∧ b ≠ kl) H6 folk) xf (hs.take i) ∧
      Paired (KhAt (fun b => ok b ∧ b ≠ a ∧ b ≠ kf ∧ b ≠ kh ∧ b ≠ kl) H6) xh (hs.take i)) ?_ (fun i σ H6 _ ⟨_, _, _, _, _, _, _, _, fr6, _⟩ => SqT.of (fr6 _ _ (ne_of hwa ha (fun z => nomatch z)) hwa)) ?_ ?_⟩
    · exact ⟨_, _, _, _, _, [], [], rfl, fr5, ga5, g35, g45, g5, .nil, .nil⟩
    · rintro i x σ H6 hi ⟨o3, o4, o5, o6, o7, xf, xh, rfl, fr6, ga6, h1, h2, h3, p1, p2⟩
      have hil := (List.getElem?_eq_some_iff.mp hi).1
      obtain ⟨ds, hds, da, dvs, rfl, hda, pd⟩ := paired_at pw hi
      have nwa : wa ≠ a := ne_of hwa ha (fun z => nomatch z)
      have tsH : TS H H6 := fun b xs e => fr6 b _ (ne_of e ha (fun z => nomatch z)) e
      obtain ⟨lds, fds⟩ := hl' ds (List.mem_of_getElem? hds)
      have ld := pd.length
      have non6 : ∀ b, H6 b = none → H b = none := fun b e => by
        by_cases n : b = a
        · rw [n, ga6] at e
          cases e
        · cases z : H b with
          | none => rfl
          | some o => rw [fr6 b o n z] at e; cases e
      -- persons
      refine ⟨_, rfl, _, rfl, by omega, by omega, fun q1 nq1 => ?_⟩
      refine lc_range (lo := 0) (n := folk.toNat) (fun j H7 => Same H6 H7 ∧ H7 q1 = some (.lst ((List.replicate j (0 : Int)).map V.int))) ⟨same_upd nq1, upd_same⟩ ?_ ?_
      · rintro j H7 hj ⟨sm7, hq1⟩
        refine ⟨rfl, tyes ⟨_, hq1, ?_, same_written sm7 nq1, ?_⟩⟩
        · rw [List.length_map, List.length_replicate]
          omega
        · rw [upd_same, List.replicate_succ', List.map_append]
          rfl
      rintro H7 ⟨sm7, hq1⟩
      -- owners
      refine fun od nod => ?_
      have nod6 : H6 od = none := by
        cases z : H6 od with
        | none => rfl
        | some y => rw [sm7 _ _ z] at nod; cases nod
      have q1od : q1 ≠ od := ne_of_none hq1 nod
      have sm8 : Same H6 (upd H7 od (.dK [])) := sm7.trans (same_upd nod)
      have hq8 : upd H7 od (.dK []) q1 = some (.lst ((List.replicate folk.toNat (0 : Int)).map V.int)) := same_upd nod _ _ hq1
      have ho8 : upd H7 od (.dK []) od = some (.dK []) := upd_same
      generalize upd H7 od (.dK []) = H8 at sm8 hq8 ho8 ⊢
      have hda8 := sm8 _ _ (tsH _ _ hda)
      have ts8 : TS H H8 := tsH.trans (TS.of sm8)
      have nT : ∀ {b : Addr} {xs : List V}, H8 b = some (.tup xs) → b ≠ q1 ∧ b ≠ od := fun e => ⟨ne_of e hq8 (fun z => nomatch z), ne_of e ho8 (fun z => nomatch z)⟩
      refine ⟨_, rfl, da, rfl, ⟨_, SqT.of hda8⟩, for_tup (a := da) (xs := dvs) (fun j σ H9 => ∃ (o6 o7 : Option V) (cs : List Int) (os : List (Int × Int)), σ = [some (.ref a), some (.int folk), some (.ref wa), some (.ref da), some (.ref q1), some (.ref od), o6, o7, none] ∧ (∀ b o, b ≠ q1 → b ≠ od → H8 b = some o → H9 b = some o) ∧
        H9 q1 = some (.lst (cs.map V.int)) ∧ H9 od = some (.dK (os.map entI)) ∧ (∀ k : Int, 0 ≤ k → k < folk → cs[k.toNat]? = some (cnt (ds.take j) k)) ∧ Own os (ds.take j) ∧ KN os ∧ os.length ≤ j) ?_
        (fun j σ H9 _ ⟨_, _, _, _, _, k9, _⟩ => SqT.of (k9 _ _ (nT hda8).1 (nT hda8).2 hda8)) ?_ ?_⟩
      · refine ⟨_, _, List.replicate folk.toNat 0, [], rfl, (fun b o _ _ e => e), hq8, ho8, fun k k0 k1 => ?_, own_nil, List.nodup_nil, Nat.le_refl _⟩
        rw [List.getElem?_replicate, if_pos (by omega)]
        rfl
      · rintro j y σ H9 hj ⟨o6, o7, cs, os, rfl, k9, hc, ho, hcs, own, kn, lo⟩
        have hjl := (List.getElem?_eq_some_iff.mp hj).1
        obtain ⟨d, hd, ta, rfl, hta⟩ := paired_at pd hj
        have hta9 := k9 _ _ (nT (ts8 _ _ hta)).1 (nT (ts8 _ _ hta)).2 (ts8 _ _ hta)
        have et : ds.take (j + 1) = ds.take j ++ [d] := by rw [List.take_add_one, hd]; rfl
        refine ⟨ta, d.vs, rfl, SqT.of hta9, rfl, .str d.sign, [.int d.num], rfl, .int d.num, [], rfl, rfl, ?_⟩
        cases d with
        | f k =>
          obtain ⟨k0, k1⟩ := fds k (List.mem_of_getElem? hd)
          have hck := hcs k k0 k1
          have hkl := (List.getElem?_eq_some_iff.mp hck).1
          refine ⟨_, rfl, rfl, _, rfl, iteT ?_⟩
          refine ⟨_, rfl, _, rfl, q1, _, k.toNat, .int (cnt (ds.take j) k), rfl, by show V.int k = _; rw [Int.toNat_of_nonneg k0], SqL.of hc, by rw [List.getElem?_map, hck]; rfl, _, 1, rfl, rfl, q1, cs.map V.int, k, k.toNat, rfl, rfl, hc, ?_, ?_⟩
          · unfold ixN
            rw [if_pos k0, if_pos (by rw [List.length_map]; omega)]
          · refine ⟨_, _, cs.set k.toNat (cnt (ds.take j) k + 1), os, rfl, (fun b o n1 n2 e => by rw [upd_ne n1]; exact k9 b o n1 n2 e), by rw [upd_same, List.map_set], by rw [upd_ne q1od.symm]; exact ho, fun k' k0' k1' => ?_, by rw [et]; exact own_f own k, kn, by omega⟩
            rw [et, cnt_f]
            by_cases e : k = k'
            · rw [← e, if_pos rfl, List.getElem?_set_self hkl]
            · rw [if_neg e, List.getElem?_set_ne (by omega), Int.add_zero]
              exact hcs k' k0' k1'
        | h k =>
          refine ⟨_, rfl, rfl, _, rfl, ?_⟩
          rw [show decide (V.str (Hd.h k).sign = V.str "f") = false from decide_eq_false (by show ¬ V.str "h" = V.str "f"; decide +kernel)]
          refine iteF ?_
          refine ⟨_, rfl, od, rfl, .inl ⟨_, .inl ho⟩, _, rfl, valV (os.map entI) (Sum.inl k), .inl ⟨_, Sum.inl k, .inl ho, rfl, rfl⟩, ?_⟩
          rw [val_ent]
          refine ⟨_, 1, rfl, rfl, _, rfl, _, rfl, od, _, rfl, .inl ⟨_, Sum.inl k, ho, rfl, ?_, rfl⟩, ?_⟩
          · rw [List.length_map]
            omega
          · refine ⟨_, _, cs, putO os k (getO os k + 1), rfl, (fun b o n1 n2 e => by rw [upd_ne n2]; exact k9 b o n1 n2 e), by rw [upd_ne q1od]; exact hc, by rw [upd_same, put_ent _ _ _ kn], fun k' k0' k1' => ?_, by rw [et]; exact own_h own k, kn.put _ _, ?_⟩
            · rw [et, cnt_h]
              exact hcs k' k0' k1'
            · have := length_putO k (getO os k + 1) os
              omega
      rintro σ H9 ⟨o6, o7, cs, os, rfl, k9, hc, ho, hcs, own, kn, lo⟩
      rw [ld, List.take_length] at hcs own
      have lxf := p1.length
      have lxh := p2.length
      have ltk : (hs.take i).length ≤ hs.length := by rw [List.length_take]; omega
      have new6 : ∀ b o, H6 b = some o → b ≠ q1 ∧ b ≠ od := fun b o e => ⟨ne_of_none e nq1, ne_of_none e nod6⟩
      have s69 : ∀ b o, H6 b = some o → H9 b = some o := fun b o e => k9 b o (new6 b o e).1 (new6 b o e).2 (sm8 _ _ e)
      have ea := fun {b o} (e : H6 b = some o) => (new6 b o e)
      -- self.kept_folk.append(persons)
      have hkf9 := s69 _ _ h1
      refine ⟨_, rfl, a, C, dx, fs, .ref kf, rfl, s69 _ _ ga6, wc.cl, wc.n3, k3, .inl ⟨rfl, _, SqL.of hkf9⟩, _, rfl, kf, xf, .ref q1, rfl, rfl, hkf9, by omega, ?_⟩
      have kq1 : kf ≠ q1 := (new6 _ _ h1).1
      have hq10 : upd H9 kf (.lst (xf ++ [.ref q1])) q1 = some (.lst (cs.map V.int)) := by rw [upd_ne kq1.symm]; exact hc
      have ho10 : upd H9 kf (.lst (xf ++ [.ref q1])) od = some (.dK (os.map entI)) := by rw [upd_ne (new6 _ _ h1).2.symm]; exact ho
      have gkf10 : upd H9 kf (.lst (xf ++ [.ref q1])) kf = some (.lst (xf ++ [.ref q1])) := upd_same
      have s610 : ∀ b o, b ≠ kf → H6 b = some o → upd H9 kf (.lst (xf ++ [.ref q1])) b = some o := fun b o n e => by rw [upd_ne n]; exact s69 b o e
      have ts10 : TS H9 (upd H9 kf (.lst (xf ++ [.ref q1]))) := TS.lst hkf9
      generalize upd H9 kf (.lst (xf ++ [.ref q1])) = H10 at hq10 ho10 gkf10 s610 ts10 ⊢
      -- self.kept_houses.append(sorted(owners.items()))
      refine ⟨_, rfl, a, C, dx, fs, .ref kh, rfl, s610 _ _ nka1.symm ga6, wc.cl, wc.n4, k4, .inl ⟨rfl, _, SqL.of (s610 _ _ nfh.symm h2)⟩, ?_⟩
      refine ⟨_, rfl, .inr (.inr (.inl ⟨rfl, .inl ⟨_, ho10⟩⟩)), od, os.map entI, rfl, rfl, ho10, fun p np => ?_⟩
      have odp : od ≠ p := ne_of_none ho10 np
      refine ⟨p, od, os, rfl, upd_same, by rw [upd_ne odp]; exact ho10, fun H11 l xs ps k11 nl pmo hl11 prp => ?_⟩
      have lps : ps.length = os.length := pmo.length_eq
      have s1011 : ∀ b o, H10 b = some o → H11 b = some o := fun b o e => k11 b o (by rw [upd_ne (ne_of_none e np)]; exact e)
      have nl10 : H10 l = none := by
        cases z : H10 l with
        | none => rfl
        | some y => 
          have := ne_of_none z np
          rw [upd_ne this, z] at nl
          cases nl
      have l6 : ∀ b o, b ≠ kf → H6 b = some o → b ≠ l := fun b o n e => ne_of_none (s610 b o n e) nl10
      have nl6 : H6 l = none := by
        cases z : H6 l with
        | none => rfl
        | some y =>
          by_cases n : l = kf
          · rw [n, gkf10] at nl10
            cases nl10
          · rw [s610 _ _ n z] at nl10
            cases nl10
      have lkf : l ≠ kf := fun n => by
        rw [n, gkf10] at nl10
        cases nl10
      have hkh11 := s1011 _ _ (s610 _ _ nfh.symm h2)
      refine ⟨kh, xh, .ref l, rfl, rfl, hkh11, by omega, ?_⟩
      have gl12 : upd H11 kh (.lst (xh ++ [.ref l])) l = some (.lst xs) := by rw [upd_ne (l6 _ _ nfh.symm h2).symm]; exact hl11
      have gkh12 : upd H11 kh (.lst (xh ++ [.ref l])) kh = some (.lst (xh ++ [.ref l])) := upd_same
      have gkf12 : upd H11 kh (.lst (xh ++ [.ref l])) kf = some (.lst (xf ++ [.ref q1])) := by rw [upd_ne nfh]; exact s1011 _ _ gkf10
      have gq12 : upd H11 kh (.lst (xh ++ [.ref l])) q1 = some (.lst (cs.map V.int)) := by rw [upd_ne (new6 _ _ h2).1.symm]; exact s1011 _ _ hq10
      have s612 : ∀ b o, b ≠ kf → b ≠ kh → H6 b = some o → upd H11 kh (.lst (xh ++ [.ref l])) b = some o := fun b o n m e => by rw [upd_ne m]; exact s1011 _ _ (s610 b o n e)
      have ts12 : TS H11 (upd H11 kh (.lst (xh ++ [.ref l]))) := TS.lst hkh11
      have pr12 := paired_ts (fun _ _ q => PairAt.ts q ts12) prp
      generalize upd H11 kh (.lst (xh ++ [.ref l])) = H12 at gl12 gkh12 gkf12 gq12 s612 ts12 pr12 ⊢
      -- self.kept_half.append((len(house) + 1) // 2)
      have hkl12 := s612 _ _ nfl.symm nhl.symm h3
      have nT6 : ∀ {b : Addr} {xs : List V}, H6 b = some (.tup xs) → H12 b = some (.tup xs) := fun {b xs} e => s612 b _ (ne_of e h1 (fun z => nomatch z)) (ne_of e h2 (fun z => nomatch z)) e
      refine ⟨_, rfl, a, C, dx, fs, .ref kl, rfl, s612 _ _ nka1.symm nka2.symm ga6, wc.cl, wc.n5, k5, .inl ⟨rfl, _, SqL.of hkl12⟩, _, rfl, da, dvs, rfl, .inr (SqT.of (nT6 (tsH _ _ hda))), _, 1, rfl, rfl, _, 2, rfl, rfl, ⟨by decide, by decide⟩, kl, _, _, rfl, rfl, hkl12, by rw [List.length_map]; omega, ?_⟩
      have okl' : H l = none := non6 _ nl6
      have okq : H q1 = none := non6 _ nq1
      have s6E : ∀ b o, b ≠ kf → b ≠ kh → b ≠ kl → H6 b = some o → upd H12 kl (.lst ((hs.take i).map (fun ds => V.int (halfN ds)) ++ [.int (((dvs.length : Int) + 1) / 2)])) b = some o := fun b o n m r e => by rw [upd_ne r]; exact s612 b o n m e
      have tsE : TS H6 (upd H12 kl (.lst ((hs.take i).map (fun ds => V.int (halfN ds)) ++ [.int (((dvs.length : Int) + 1) / 2)]))) := fun b xs e => s6E b _ (ne_of e h1 (fun z => nomatch z)) (ne_of e h2 (fun z => nomatch z)) (ne_of e h3 (fun z => nomatch z)) e
      have ts1 : TS H12 (upd H12 kl (.lst ((hs.take i).map (fun ds => V.int (halfN ds)) ++ [.int (((dvs.length : Int) + 1) / 2)]))) := TS.lst hkl12
      have et : hs.take (i + 1) = hs.take i ++ [ds] := by rw [List.take_add_one, hds]; rfl
      refine ⟨some (.ref da), some (.ref q1), some (.ref od), o6, o7, xf ++ [.ref q1], xh ++ [.ref l], rfl, fun b o n e => ?_, s6E _ _ nka1.symm nka2.symm nka3.symm ga6, by rw [upd_ne nfl]; exact gkf12, by rw [upd_ne nhl]; exact gkh12, ?_, ?_, ?_⟩
      · have e6 := fr6 b o n e
        exact s6E b o (ne_of_none e hkf) (ne_of_none e hkh) (ne_of_none e hkl) e6
      · rw [upd_same, et, List.map_append]
        show some (HO.lst (_ ++ [V.int (((dvs.length : Int) + 1) / 2)])) = some (HO.lst (_ ++ [V.int (((ds.length : Int) + 1) / 2)]))
        rw [ld]
      · rw [et]
        refine paired_snoc (paired_ts (fun _ _ q => KfAt.keep q (fun b o z e => s6E b o z.2.2.1 z.2.2.2.1 z.2.2.2.2 e) fun _ z => z) p1) ⟨q1, cs, rfl, ⟨okn _ okq, (new6 _ _ ga6).1.symm, (new6 _ _ h1).1.symm, (new6 _ _ h2).1.symm, (new6 _ _ h3).1.symm⟩, ?_, hcs⟩
        rw [upd_ne (new6 _ _ h3).1.symm]
        exact gq12
      · rw [et]
        refine paired_snoc (paired_ts (fun _ _ q => KhAt.keep q (fun b o z e => s6E b o z.2.2.1 z.2.2.2.1 z.2.2.2.2 e) (fun _ z => z) tsE) p2) ⟨l, xs, ps, rfl, ⟨okn _ okl', (l6 _ _ nka1.symm ga6).symm, lkf, (l6 _ _ nfh.symm h2).symm, (l6 _ _ nfl.symm h3).symm⟩, ?_, paired_ts (fun _ _ q => PairAt.ts q ts1) pr12, own.perm pmo, by omega⟩
        rw [upd_ne (l6 _ _ nfl.symm h3).symm]
        exact gl12
    · rintro σ H6 ⟨o3, o4, o5, o6, o7, xf, xh, rfl, fr6, ga6, h1, h2, h3, p1, p2⟩
      rw [lw, List.take_length] at h3 p1 p2
      have nwa : wa ≠ a := ne_of hwa ha (fun z => nomatch z)
      refine q H6 ⟨a, C, dx, fs, .ref wa, kf, kh, kl, xf, xh, rfl, oka, ga6, wc, k1, k2, k3, k4, k5, ⟨wa, wvs, rfl, fr6 _ _ nwa hwa, ?_⟩, okf, okh, okl, h1, h2, h3, paired_ts (fun _ _ q => KfAt.keep q (fun _ _ _ e => e) okI) p1, paired_ts (fun _ _ q => KhAt.keep q (fun _ _ _ e => e) okI (TS.refl _)) p2⟩ fr6
      refine paired_ts (fun _ _ q => HsAt.ts q ?_) pw
      exact fun b xs e => fr6 b _ (ne_of e ha (fun z => nomatch z)) e
end
end K23
/-! Webs made; one beside another. -/
namespace K23
open PySem PySem.Spec PyProof.Rows L2
theorem walk_enumT {K : PySem.W.Frag} {a : Addr} {xs : List V} : Walk (IteT K a) xs.length (fun H => SqT K H a xs) (YPair (fun i => some (.int (i : Nat))) (fun i => xs[i]?)) := by
  refine ⟨fun i _ hi q => ⟨xs, xs[i], q, by simp [hi]⟩, fun _ q => ⟨xs, q, Nat.le_refl _⟩, fun i H v H' _ q y => ?_⟩
  obtain ⟨t, x, a1, a2, a3, a4⟩ := y
  exact ⟨t, .int (i : Nat), x, a1, a2, a3, rfl, a4 xs q⟩
section
variable {P : Program} {w : World} {K : PySem.W.Frag} {mg : Str → Option Value} {base : Heap}
abbrev n_Web_init : List Str := ["self", "folk", "houses", "number", "house"]
theorem sc_Web_init : FnScope n_Web_init ["self", "folk", "houses"] (defScope s_Web_init) := ⟨rfl, rfl, rfl, by decide +kernel, rfl, by decide +kernel, by decide +kernel⟩
def spInit (K : PySem.W.Frag) (C : Addr) : Sp := fun vs H Q _ => ∃ (a dx : Addr) (folk : Int) (y : V) (hs : List (List Hd)) (ok : Addr → Prop), vs = [.ref a, .int folk, y] ∧ H a = some (.ins C dx []) ∧ WsAt H y hs ∧ WebOk folk hs ∧ ok a ∧ (∀ b, H b = none → ok b) ∧
  ∀ H', WebAt K ok H' (.ref a) folk hs → (∀ b o, b ≠ a → H b = some o → H' b = some o) → Q .non H'
theorem HouseOk.fb {f n : Int} {ds : List Hd} (h : HouseOk f n ds) : ds.length ≤ 1000 ∧ ∀ k, Hd.f k ∈ ds → 0 ≤ k ∧ k < f := ⟨by have := h.len; omega, fun k hk => h.ok _ hk⟩
theorem ok_web_init {f fK C : Addr} {fd dK : FuncData} (T : Txt K mg) (wc : WCls K C) (mK : Meth K C "keep" fK) (FK : FnOk P w K mg base CX0 1 fK dK ["self", "folk", "houses"] (spKeep K)) (bK : Binds K dK ["self", "folk", "houses"] [])
    (c_is_within : Cal CX0 P w K mg base 2 "is_within" spIsWithin) (c_are_shares : Cal CX0 P w K mg base 4 "are_shares" spShares) (F : Fun K "__init__" "Web.__init__" s_Web_init f fd) : FnOk P w K mg base CX0 5 f fd ["self", "folk", "houses"] (spInit K C) := by
  refine F.ok sc_Web_init (fun vs H Q E h => ?_) (fun cdv A outer s H vs Q E hr h => ?_)
  · obtain ⟨a, dx, folk, y, hs, ok, rfl, _⟩ := h
    rfl
  · obtain ⟨a, dx, folk, y, hs, ok, rfl, ha, ⟨wa, wvs, rfl, hwa, pw⟩, wok, oka, okn, q⟩ := h
    have nd := sc_Web_init.nd
    refine ⟨_, pss_cons (ps_if (pt_not (pt_val (pe_cal c_is_within hr (by decide) (by rfl) (pa_cons (pv 1) (pa_cons pe_int (pa_cons (pe_gc rfl T.v_MOST_FOLK) pa_nil)))))) (pss_one ps_never) pss_nil)
      (pss_cons (ps_if (PW.pt (pw_or (pt_not (pt_val (pe_callB (call_isB "tuple") (by rfl) T.isinstance (by decide +kernel) (pa_cons (pv 2) (pa_cons (pe_ty "tuple" rfl T.tuple (by decide +kernel)) pa_nil))))) (pw_or1 (pt_cmpR op_gt (pe_callB call_len_seq (by rfl) T.len (by decide +kernel) (pa_cons (pv 2) pa_nil)) (pe_gc rfl T.v_MOST_HOUSES_webs) (nomark _))))) (pss_one ps_never) pss_nil)
      (pss_cons (ps_for PassesOwn.never rfl (pi_enumT (by rfl) T.enumerate (pa_cons (pv 2) pa_nil)) (pg_tup rfl (pgs_cons (pg_name (i := 3) nd rfl (Or.inl rfl)) (pgs_cons (pg_name (i := 4) nd rfl (Or.inl rfl)) pgs_nil)))
        (pss_one (ps_if (pt_not (pt_val (pe_cal c_are_shares hr (by decide) (by rfl) (pa_cons (pv 4) (pa_cons (pv 1) (pa_cons (pe_callB call_len_seq (by rfl) T.len (by decide +kernel) (pa_cons (pv 2) pa_nil)) pa_nil)))))) (pss_one ps_never) pss_nil)))
      (pss_one (ps_expr (pe_meth (pv 0) wc.cl mK FK (hr.mono (by decide)) bK .nil pass0 (pa_cons (pv 1) (pa_cons (pv 2) pa_nil))))))), ?_⟩
    have lw := pw.length
    have n12 := wok.n1
    have f0 := wok.f0
    have f6 := wok.f1
    refine ⟨_, rfl, folk, 1, 6, rfl, ?_⟩
    rw [decide_eq_true f0, decide_eq_true f6]
    refine ⟨true, rfl, iteF ?_⟩
    refine ⟨_, rfl, _, _, _, rfl, ty_tup hwa, kb_tuple_tuple, true, rfl, iteF ⟨_, rfl, wa, wvs, rfl, .inr (SqT.of hwa), _, 12, rfl, rfl, _, rfl, ?_⟩⟩
    rw [decide_eq_false (by omega)]
    refine iteF ?_
    refine ⟨_, rfl, wa, wvs, rfl, SqT.of hwa, for_it walk_enumT (fun i σ H1 => Same H H1 ∧ ∃ o3 o4, σ = [some (.ref a), some (.int folk), some (.ref wa), o3, o4]) ⟨fun _ _ e => e, _, _, rfl⟩ (fun i σ H1 _ ⟨sm, _⟩ => SqT.of (sm _ _ hwa)) ?_ ?_⟩
    · rintro i x σ H1 H1' hi ⟨sm, o3, o4, rfl⟩ ⟨t, xi, v, rfl, nt, rfl, e1, e2⟩
      cases e1
      obtain ⟨ds, hds, hat⟩ := paired_at pw e2
      have sm1 := sm.trans (same_upd (o := .tup [V.int (i : Nat), v]) nt)
      refine ⟨t, _, rfl, SqT.of upd_same, rfl, _, _, rfl, _, _, rfl, rfl, ?_⟩
      refine ⟨_, rfl, _, rfl, _, rfl, wa, wvs, rfl, .inr (SqT.of (sm1 _ _ hwa)), v, ds, folk, _, rfl, hat.ts (TS.of sm1), ?_, fun H2 sm2 => ⟨true, rfl, iteF ⟨sm1.trans sm2, _, _, rfl⟩⟩⟩
      rw [lw]
      exact wok.ok ds (List.mem_of_getElem? hds)
    · rintro σ H1 ⟨sm, o3, o4, rfl⟩
      have ha1 := sm _ _ ha
      refine ⟨_, rfl, a, dx, [], rfl, ha1, rfl, _, rfl, _, rfl, a, C, dx, folk, .ref wa, hs, ok, rfl, ha1, wc, ⟨wa, wvs, rfl, sm _ _ hwa, paired_ts (fun _ _ q => q.ts (TS.of sm)) pw⟩, by omega, by omega, by omega, fun ds hds => (wok.ok ds hds).fb, oka, fun b e => okn b ?_, fun H2 web fr => q H2 web fun b o n e => fr b o n (sm b o e)⟩
      cases z : H b with
      | none => rfl
      | some o => rw [sm _ _ z] at e; cases e
abbrev n_RawWeb_init : List Str := ["self", "folk", "houses"]
theorem sc_RawWeb_init : FnScope n_RawWeb_init ["self", "folk", "houses"] (defScope s_RawWeb_init) := ⟨rfl, rfl, rfl, by decide +kernel, rfl, by decide +kernel, by decide +kernel⟩
def spInitR (K : PySem.W.Frag) (C : Addr) : Sp := fun vs H Q _ => ∃ (a dx : Addr) (folk : Int) (y : V) (hs : List (List Hd)) (ok : Addr → Prop), vs = [.ref a, .int folk, y] ∧ H a = some (.ins C dx []) ∧ WsAt H y hs ∧ 0 ≤ folk ∧ folk ≤ 1000 ∧ hs.length ≤ 1000 ∧
  (∀ ds ∈ hs, ds.length ≤ 1000 ∧ ∀ k, Hd.f k ∈ ds → 0 ≤ k ∧ k < folk) ∧ ok a ∧ (∀ b, H b = none → ok b) ∧ ∀ H', WebAt K ok H' (.ref a) folk hs → (∀ b o, b ≠ a → H b = some o → H' b = some o) → Q .non H'
theorem ok_raw_init {f fK C : Addr} {fd dK : FuncData} (wc : WCls K C) (mK : Meth K C "keep" fK) (FK : FnOk P w K mg base CX0 1 fK dK ["self", "folk", "houses"] (spKeep K)) (bK : Binds K dK ["self", "folk", "houses"] [])
    (F : Fun K "__init__" "RawWeb.__init__" s_RawWeb_init f fd) : FnOk P w K mg base CX0 2 f fd ["self", "folk", "houses"] (spInitR K C) := by
  refine F.ok sc_RawWeb_init (fun vs H Q E h => ?_) (fun cdv A outer s H vs Q E hr h => ?_)
  · obtain ⟨a, dx, folk, y, hs, ok, rfl, _⟩ := h
    rfl
  · obtain ⟨a, dx, folk, y, hs, ok, rfl, ha, ws, f0, f1, hl, hb, oka, okn, q⟩ := h
    have nd := sc_RawWeb_init.nd
    refine ⟨_, pss_one (ps_expr (pe_meth (pv 0) wc.cl mK FK (hr.mono (by decide)) bK .nil pass0 (pa_cons (pv 1) (pa_cons (pv 2) pa_nil)))), ?_⟩
    exact ⟨_, rfl, a, dx, [], rfl, ha, rfl, _, rfl, _, rfl, a, C, dx, folk, y, hs, ok, rfl, ha, wc, ws, f0, f1, hl, hb, oka, okn, q⟩
/-- a new web stands, the rest stays -/
theorem made_same {H1 H2 : Hp} {x dx : Addr} {C : Addr} (nx : H1 x = none) (ndx : H1 dx = none) (fr : ∀ b o, b ≠ x → upd (upd H1 dx (.own x)) x (.ins C dx []) b = some o → H2 b = some o) : Same H1 H2 := fun b o e => by
  have n1 := ne_of_none e nx
  refine fr b o n1 ?_
  rw [upd_ne n1, upd_ne (ne_of_none e ndx)]
  exact e
theorem made_none {H1 : Hp} {x dx : Addr} {C b : Addr} (nx : H1 x = none) (ndx : H1 dx = none) (e : upd (upd H1 dx (.own x)) x (.ins C dx []) b = none) : H1 b = none := by
  by_cases n1 : b = x
  · rw [n1]
    exact nx
  · rw [upd_ne n1] at e
    by_cases n2 : b = dx
    · rw [n2]
      exact ndx
    · rwa [upd_ne n2] at e
/-- Web(folk, houses), made -/
theorem make_web {C : Addr} {H1 : Hp} {folk : Int} {y : V} {hs : List (List Hd)} {Q : VK} {E : XK} (ok : Addr → Prop) (hy : WsAt H1 y hs) (wok : WebOk folk hs) (okn : ∀ b, H1 b = none → ok b) (q : ∀ x H2, Same H1 H2 → WebAt K ok H2 x folk hs → Q x H2) :
    ∀ x dx, H1 x = none → H1 dx = none → dx ≠ x → spInit K C [.ref x, .int folk, y] (upd (upd H1 dx (.own x)) x (.ins C dx [])) (fun v H2 => v = .non ∧ Q (.ref x) H2) E := fun x dx nx ndx ne => by
  refine ⟨x, dx, folk, y, hs, ok, rfl, upd_same, hy.ts fun b xs e => ?_, wok, okn _ nx, fun b e => okn b (made_none nx ndx e), fun H2 web fr => ⟨rfl, q _ H2 (made_same nx ndx fr) web⟩⟩
  rw [upd_ne (ne_of_none e nx), upd_ne (ne_of_none e ndx)]
  exact e
theorem make_raw {C : Addr} {H1 : Hp} {folk : Int} {y : V} {hs : List (List Hd)} {Q : VK} {E : XK} (ok : Addr → Prop) (hy : WsAt H1 y hs) (f0 : 0 ≤ folk) (f1 : folk ≤ 1000) (hl : hs.length ≤ 1000) (hb : ∀ ds ∈ hs, ds.length ≤ 1000 ∧ ∀ k, Hd.f k ∈ ds → 0 ≤ k ∧ k < folk)
    (okn : ∀ b, H1 b = none → ok b) (q : ∀ x H2, Same H1 H2 → WebAt K ok H2 x folk hs → Q x H2) :
    ∀ x dx, H1 x = none → H1 dx = none → dx ≠ x → spInitR K C [.ref x, .int folk, y] (upd (upd H1 dx (.own x)) x (.ins C dx [])) (fun v H2 => v = .non ∧ Q (.ref x) H2) E := fun x dx nx ndx ne => by
  refine ⟨x, dx, folk, y, hs, ok, rfl, upd_same, hy.ts fun b xs e => ?_, f0, f1, hl, hb, okn _ nx, fun b e => okn b (made_none nx ndx e), fun H2 web fr => ⟨rfl, q _ H2 (made_same nx ndx fr) web⟩⟩
  rw [upd_ne (ne_of_none e nx), upd_ne (ne_of_none e ndx)]
  exact e
/-- a list or a tuple of holders -/
def HolsAt (H : Hp) (x : V) (ds : List Hd) : Prop := ∃ a xs, x = .ref a ∧ (H a = some (.lst xs) ∨ H a = some (.tup xs)) ∧ Paired (HdAt H) xs ds
theorem HolsAt.same {H H' : Hp} {x : V} {ds : List Hd} (h : HolsAt H x ds) (k : Same H H') : HolsAt H' x ds := by
  obtain ⟨a, xs, e, h, p⟩ := h
  exact ⟨a, xs, e, h.imp (k _ _) (k _ _), paired_ts (fun _ _ q => q.ts (TS.of k)) p⟩
theorem HsAt.hols {H : Hp} {x : V} {ds : List Hd} (h : HsAt H x ds) : HolsAt H x ds := by
  obtain ⟨a, xs, e, h, p⟩ := h
  exact ⟨a, xs, e, .inr h, p⟩
abbrev n_raw_web : List Str := ["folk", "houses", "house"]
theorem sc_raw_web : FnScope n_raw_web ["folk", "houses"] (defScope s_raw_web) := ⟨rfl, rfl, rfl, by decide +kernel, rfl, by decide +kernel, by decide +kernel⟩
def spRawWeb (K : PySem.W.Frag) : Sp := fun vs H Q _ => ∃ (folk : Int) (a : Addr) (xs : List V) (hs : List (List Hd)) (ok : Addr → Prop), vs = [.int folk, .ref a] ∧ H a = some (.lst xs) ∧ Paired (HolsAt H) xs hs ∧ 0 ≤ folk ∧ folk ≤ 1000 ∧ hs.length ≤ 1000 ∧
  (∀ ds ∈ hs, ds.length ≤ 1000 ∧ ∀ k, Hd.f k ∈ ds → 0 ≤ k ∧ k < folk) ∧ (∀ b, H b = none → ok b) ∧ ∀ x hs' H', hs'.length = hs.length → WebAt K ok H' x folk hs' → Same H H' → Q x H'
theorem ok_raw_web {R : Addr} (T : Txt K mg) (c_RawWeb : C8.Mak P w K mg base 2 "RawWeb" R (spInitR K R) []) (D : Df K mg "raw_web" s_raw_web ["folk", "houses"]) : Cal CX0 P w K mg base 4 "raw_web" (spRawWeb K) := by
  refine D.cal sc_raw_web (fun vs H Q E h => ?_) (fun f cdv A outer s H vs Q E hr h => ?_)
  · obtain ⟨folk, a, xs, hs, ok, rfl, _⟩ := h
    rfl
  · obtain ⟨folk, a, xs, hs, ok, rfl, ha, pr, f0, f1, hl, hb, okn, q⟩ := h
    have hu6 := hu60 hr
    have nd := sc_raw_web.nd
    refine ⟨_, pss_one (ps_ret (C8.pe_mk c_RawWeb hr (by decide) (by rfl) (pa_cons (pv 0) (pa_cons (pe_callTy call_tuple_of (by rfl) T.tuple (by decide +kernel) (pa_cons (pe_lc (own := [("house", 2)]) (g := (gName 2)) (tt := tYes) rfl nd (pi_list (pv 1)) (blkOk_by (N := n_raw_web) (sc := defScope s_raw_web) (by decide +kernel)) (fun _ _ _ _ _ => (pg_name (i := 2) nd rfl (Or.inl rfl))) (fun _ _ _ _ _ => pts_nil) (fun _ _ _ _ _ => (pe_callTy (call_tupleK K) (by rfl) T.tuple (by decide +kernel) (pa_cons (pe_callB (cr_sortHK K hu6) (by rfl) T.sorted (by decide +kernel) (pa_cons (pv 2) pa_nil)) pa_nil)))) pa_nil)) pa_nil)))), ?_⟩
    have lp := pr.length
    have big := sizeBig
    refine ⟨_, rfl, _, rfl, a, rfl, ⟨_, SqL.of ha⟩, fun o no => ?_⟩
    refine lc_list (a := a) (xs := xs) (fun i H1 => Same H H1 ∧ ∃ ys hs', H1 o = some (.lst ys) ∧ Paired (HsAt H1) ys hs' ∧ hs'.length = i ∧ ∀ ds ∈ hs', ds.length ≤ 1000 ∧ ∀ k, Hd.f k ∈ ds → 0 ≤ k ∧ k < folk) ⟨same_upd no, [], [], upd_same, .nil, rfl, (fun _ h => nomatch h)⟩ (fun i H1 _ ⟨e, _⟩ => SqL.of (e _ _ ha)) ?_ ?_
    · rintro i x H1 hi ⟨sm, ys, hs', ho, p1, l1, b1⟩
      have hil := (List.getElem?_eq_some_iff.mp hi).1
      obtain ⟨ds, hds, hat⟩ := paired_at pr hi
      obtain ⟨b, zs, rfl, hb', pz⟩ := hat.same sm
      obtain ⟨b2, b3⟩ := hb ds (List.mem_of_getElem? hds)
      refine ⟨rfl, tyes ?_⟩
      refine ⟨_, rfl, b, zs, ds, rfl, hb'.imp SqL.of SqT.of, pz, sz (by omega), fun us es l nl pu pm asc => ?_⟩
      refine ⟨l, us, rfl, .inl ⟨SqL.of upd_same, fun t nt => ?_⟩⟩
      have sm2 : Same H1 (upd (upd H1 l (.lst us)) t (.tup us)) := (same_upd nl).trans (same_upd nt)
      have gt : upd (upd H1 l (.lst us)) t (.tup us) t = some (.tup us) := upd_same
      generalize upd (upd H1 l (.lst us)) t (.tup us) = H2 at sm2 gt ⊢
      have ho2 := sm2 _ _ ho
      have tsE : TS H2 (upd H2 o (.lst (ys ++ [.ref t]))) := TS.lst ho2
      refine ⟨_, ho2, by rw [p1.length]; omega, same_written (sm.trans sm2) no, ys ++ [.ref t], hs' ++ [es], upd_same, paired_snoc (paired_ts (fun _ _ q => q.ts ((TS.of sm2).trans tsE)) p1) ⟨t, us, rfl, tsE _ _ gt, paired_ts (fun _ _ q => q.ts ((TS.of sm2).trans tsE)) pu⟩, by rw [List.length_append, List.length_singleton, l1], fun ds' hd' => ?_⟩
      rcases List.mem_append.mp hd' with hd' | hd'
      · exact b1 ds' hd'
      · rw [List.mem_singleton.mp hd']
        exact ⟨by rw [pm.length_eq]; exact b2, fun k hk => b3 k (pm.mem_iff.mp hk)⟩
    · rintro H1 ⟨sm, ys, hs', ho, p1, l1, b1⟩
      refine ⟨o, ys, rfl, .inl ⟨SqL.of ho, fun t nt => ?_⟩⟩
      have sm1 := sm.trans (same_upd (o := .tup ys) nt)
      refine make_raw ok ⟨t, ys, rfl, upd_same, paired_ts (fun _ _ q => q.ts (TS.upd nt)) p1⟩ f0 f1 (by omega) b1 (fun b e => okn b ?_) fun x H2 sm2 web => q x hs' H2 (by omega) web (sm1.trans sm2)
      cases z : H b with
      | none => rfl
      | some o => rw [sm1 _ _ z] at e; cases e
end
end K23
/-! One web beside another. -/
namespace K23
open PySem PySem.Spec PyProof.Rows L2
def Hd.shift (by_ : Int) : Hd → Hd
  | .f k => .f k
  | .h k => .h (k + by_)
section
variable {P : Program} {w : World} {K : PySem.W.Frag} {mg : Str → Option Value} {base : Heap}
abbrev n_shifted : List Str := ["houses", "by", "house", "holder"]
theorem sc_shifted : FnScope n_shifted ["houses", "by"] (defScope s_shifted) := ⟨rfl, rfl, rfl, by decide +kernel, rfl, by decide +kernel, by decide +kernel⟩
def spShifted : Sp := fun vs H Q _ => ∃ (y : V) (n : Int) (hs : List (List Hd)), vs = [y, .int n] ∧ WsAt H y hs ∧ hs.length ≤ 1000 ∧ (∀ ds ∈ hs, ds.length ≤ 1000) ∧
  ∀ (D : Addr) (xs : List V) (H' : Hp), Same H H' → H D = none → H' D = some (.lst xs) → Paired (HolsAt H') xs (hs.map fun ds => ds.map (Hd.shift n)) → Q (.ref D) H'
theorem ok_shifted (T : Txt K mg) (D : Df K mg "shifted" s_shifted ["houses", "by"]) : Cal CX0 P w K mg base 1 "shifted" spShifted := by
  refine D.cal sc_shifted (fun vs H Q E h => ?_) (fun f cdv A outer s H vs Q E hr h => ?_)
  · obtain ⟨y, n, hs, rfl, _⟩ := h
    rfl
  · obtain ⟨y, n, hs, rfl, ⟨wa, ws, rfl, hwa, pw⟩, hl, hd, q⟩ := h
    have nd := sc_shifted.nd
    refine ⟨_, pss_one (ps_ret (pe_lc (own := [("house", 2)]) (g := (gName 2)) (tt := tYes) rfl nd (pi_tup (pv 0)) (blkOk_by (N := n_shifted) (sc := defScope s_shifted) (by decide +kernel)) (fun _ _ _ _ _ => (pg_name (i := 2) nd rfl (Or.inl rfl))) (fun _ _ _ _ _ => pts_nil) (fun _ _ _ _ _ => (pe_lc (own := [("holder", 3)]) (g := (gName 3)) (tt := tYes) rfl nd (pi_tupK K (pv 2)) (blkOk_by (N := n_shifted) (sc := ({ kind := ScopeKind.function, names := [(".0", NameKind.local), ("house", NameKind.local), ("by", NameKind.cell)], isGenerator := false, isCoroutine := false } : Scope)) (by decide +kernel)) (fun _ _ _ _ _ => (pg_name (i := 3) nd rfl (Or.inl rfl))) (fun _ _ _ _ _ => pts_nil) (fun _ _ _ _ _ => (pe_ifExp (pt_cmpR op_eq (pe_ix (ix_tupK K) (pv 3) pe_int (fun _ _ => rfl)) pe_str (nomark _)) (pv 3) (pe_tup (pa_cons pe_str (pa_cons (pe_op op_add (pe_ix (ix_tupK K) (pv 3) pe_int (fun _ _ => rfl)) (pv 1)) pa_nil))))))))), ?_⟩
    have lw := pw.length
    have big := sizeBig
    refine ⟨_, rfl, wa, rfl, ⟨_, SqT.of hwa⟩, fun o no => ?_⟩
    refine lc_tup (a := wa) (xs := ws) (fun i H1 => Same H H1 ∧ ∃ ys, H1 o = some (.lst ys) ∧ Paired (fun x ds => HolsAt H1 x ds ∧ x ≠ .ref o) ys ((hs.take i).map fun ds => ds.map (Hd.shift n))) ⟨same_upd no, [], upd_same, .nil⟩ (fun i H1 _ ⟨e, _⟩ => SqT.of (e _ _ hwa)) ?_ ?_
    · rintro i x H1 hi ⟨sm, ys, ho, p1⟩
      have hil := (List.getElem?_eq_some_iff.mp hi).1
      obtain ⟨ds, hds, da, dvs, rfl, hda, pd⟩ := paired_at pw hi
      have ld := pd.length
      have ld2 := hd ds (List.mem_of_getElem? hds)
      refine ⟨rfl, tyes ?_⟩
      refine ⟨_, rfl, da, rfl, ⟨_, SqT.of (sm _ _ hda)⟩, fun o2 no2 => ?_⟩
      refine lc_tup (a := da) (xs := dvs) (fun j H2 => Same H1 H2 ∧ ∃ zs, H2 o2 = some (.lst zs) ∧ Paired (HdAt H2) zs ((ds.take j).map (Hd.shift n))) ⟨same_upd no2, [], upd_same, .nil⟩ (fun j H2 _ ⟨e, _⟩ => SqT.of (e _ _ (sm _ _ hda))) ?_ ?_
      · rintro j z H2 hj ⟨sm2, zs, ho2, p2⟩
        have hjl := (List.getElem?_eq_some_iff.mp hj).1
        obtain ⟨d, hd1, ta, rfl, hta⟩ := paired_at pd hj
        have hta2 := sm2 _ _ (sm _ _ hta)
        have lp2 := p2.length
        have lt : ((ds.take j).map (Hd.shift n)).length ≤ ds.length := by rw [List.length_map, List.length_take]; omega
        have et : (ds.take (j + 1)).map (Hd.shift n) = (ds.take j).map (Hd.shift n) ++ [d.shift n] := by rw [List.take_add_one, hd1, List.map_append]; rfl
        refine ⟨rfl, tyes ?_⟩
        cases d with
        | f k =>
          refine ⟨_, rfl, ta, _, 0, .str "f", rfl, rfl, SqT.of hta2, atI_nat (j := 0) rfl, rfl, _, rfl, iteT ?_⟩
          have tsE : TS H2 (upd H2 o2 (.lst (zs ++ [.ref ta]))) := TS.lst ho2
          refine ⟨_, rfl, _, ho2, by omega, same_written sm2 no2, zs ++ [.ref ta], upd_same, ?_⟩
          rw [et]
          exact paired_snoc (paired_ts (fun _ _ q => q.ts tsE) p2) ⟨ta, rfl, tsE _ _ hta2⟩
        | h k =>
          refine ⟨_, rfl, ta, _, 0, .str "h", rfl, rfl, SqT.of hta2, atI_nat (j := 0) rfl, rfl, _, rfl, ?_⟩
          rw [decide_eq_false (by decide +kernel)]
          refine iteF ⟨_, rfl, ta, _, 1, .int k, rfl, rfl, SqT.of hta2, atI_nat (j := 1) rfl, _, rfl, k, n, rfl, rfl, sz (by show 2 ≤ 1000000; omega), fun t nt => ?_⟩
          have ho3 := same_upd (o := .tup [V.str "h", V.int (k + n)]) nt _ _ ho2
          have tsE : TS (upd H2 t (.tup [.str "h", .int (k + n)])) (upd (upd H2 t (.tup [.str "h", .int (k + n)])) o2 (.lst (zs ++ [.ref t]))) := TS.lst ho3
          refine ⟨_, ho3, by omega, same_written (sm2.trans (same_upd nt)) no2, zs ++ [.ref t], upd_same, ?_⟩
          rw [et]
          exact paired_snoc (paired_ts (fun _ _ q => q.ts ((TS.upd nt).trans tsE)) p2) ⟨t, rfl, tsE _ _ upd_same⟩
      · rintro H2 ⟨sm2, zs, ho2, p2⟩
        rw [ld, List.take_length] at p2
        have hoA := sm2 _ _ ho
        have oo : o2 ≠ o := (ne_of_none ho no2).symm
        have et : (hs.take (i + 1)).map (fun ds => ds.map (Hd.shift n)) = (hs.take i).map (fun ds => ds.map (Hd.shift n)) ++ [ds.map (Hd.shift n)] := by rw [List.take_add_one, hds, List.map_append]; rfl
        have lp1 := p1.length
        have lt : ((hs.take i).map fun ds => ds.map (Hd.shift n)).length ≤ hs.length := by rw [List.length_map, List.length_take]; omega
        have tsE : TS H2 (upd H2 o (.lst (ys ++ [.ref o2]))) := TS.lst hoA
        refine ⟨_, hoA, by omega, same_written (sm.trans sm2) no, ys ++ [.ref o2], upd_same, ?_⟩
        rw [et]
        refine paired_snoc (paired_ts (fun x ds' hx => ⟨?_, hx.2⟩) p1) ⟨⟨o2, zs, rfl, .inl (by rw [upd_ne oo]; exact ho2), paired_ts (fun _ _ q => q.ts tsE) p2⟩, fun z => oo (V.ref.inj z)⟩
        obtain ⟨⟨q', us, e, hq, pu⟩, nq⟩ := hx
        refine ⟨q', us, e, ?_, paired_ts (fun _ _ q => q.ts ((TS.of sm2).trans tsE)) pu⟩
        rw [upd_ne (fun z => nq (by rw [e, z]))]
        exact hq.imp (sm2 _ _) (sm2 _ _)
    · rintro H1 ⟨sm, ys, ho, p1⟩
      rw [lw, List.take_length] at p1
      exact q o ys H1 sm no ho (paired_ts (fun _ _ h => h.1) p1)
abbrev n_check_match : List Str := ["one", "other"]
theorem sc_check_match : FnScope n_check_match ["one", "other"] (defScope s_check_match) := ⟨rfl, rfl, rfl, by decide +kernel, rfl, by decide +kernel, by decide +kernel⟩
def spMatch (K : PySem.W.Frag) : Sp := fun vs H Q _ => ∃ (x y : V) (folk : Int) (hs hs2 : List (List Hd)) (ok ok2 : Addr → Prop), vs = [x, y] ∧ WebAt K ok H x folk hs ∧ WebAt K ok2 H y folk hs2 ∧ Q .non H
theorem ok_check_match (D : Df K mg "check_match" s_check_match ["one", "other"]) : Cal CX0 P w K mg base 1 "check_match" (spMatch K) := by
  refine D.cal sc_check_match (fun vs H Q E h => ?_) (fun f cdv A outer s H vs Q E hr h => ?_)
  · obtain ⟨x, y, folk, hs, hs2, ok, ok2, rfl, _⟩ := h
    rfl
  · obtain ⟨x, y, folk, hs, hs2, ok, ok2, rfl, w1, w2, q⟩ := h
    have nd := sc_check_match.nd
    refine ⟨_, pss_one (ps_if (pt_cmpR op_ne (pe_fld (pv 0) rfl) (pe_fld (pv 1) rfl) (nomark _)) (pss_one ps_never) pss_nil), ?_⟩
    obtain ⟨a, C, dx, fs, yy, kf, kh, kl, xf, xh, rfl, oa, ha, c, f1, f2, f3, f4, f5, ws, _⟩ := w1
    obtain ⟨a', C', dx', fs', yy', kf', kh', kl', xf', xh', rfl, oa', ha', c', f1', f2', f3', f4', f5', ws', _⟩ := w2
    refine ⟨_, rfl, a, C, dx, fs, _, rfl, ha, c.cl, c.n1, f1, _, rfl, a', C', dx', fs', _, rfl, ha', c'.cl, c'.n1, f1', rfl, _, rfl, ?_⟩
    rw [decide_eq_true rfl]
    exact iteF q
abbrev n_beside : List Str := ["one", "other"]
theorem sc_beside : FnScope n_beside ["one", "other"] (defScope s_beside) := ⟨rfl, rfl, rfl, by decide +kernel, rfl, by decide +kernel, by decide +kernel⟩
/-- two webs of as many folk, one beside the other: as many houses as both -/
def spBeside (K : PySem.W.Frag) : Sp := fun vs H Q _ => ∃ (x y : V) (folk : Int) (hs hs2 : List (List Hd)) (ok ok1 ok2 : Addr → Prop), vs = [x, y] ∧ WebAt K ok1 H x folk hs ∧ WebAt K ok2 H y folk hs2 ∧ WebOk folk hs ∧ WebOk folk hs2 ∧ (∀ b, H b = none → ok b) ∧
  ∀ z hs3 H', hs3.length = hs.length + hs2.length → WebAt K ok H' z folk hs3 → Same H H' → Q z H'
theorem ok_beside (T : Txt K mg) (c_check_match : Cal CX0 P w K mg base 1 "check_match" (spMatch K)) (c_raw_web : Cal CX0 P w K mg base 4 "raw_web" (spRawWeb K)) (c_shifted : Cal CX0 P w K mg base 1 "shifted" spShifted) (D : Df K mg "beside" s_beside ["one", "other"]) : Cal CX0 P w K mg base 5 "beside" (spBeside K) := by
  refine D.cal sc_beside (fun vs H Q E h => ?_) (fun f cdv A outer s H vs Q E hr h => ?_)
  · obtain ⟨x, y, folk, hs, hs2, ok, ok1, ok2, rfl, _⟩ := h
    rfl
  · obtain ⟨x, y, folk, hs, hs2, ok, ok1, ok2, rfl, w1, w2, k1, k2, okn, q⟩ := h
    have nd := sc_beside.nd
    refine ⟨_, pss_cons (ps_expr (pe_cal c_check_match hr (by decide) (by rfl) (pa_cons (pv 0) (pa_cons (pv 1) pa_nil))))
      (pss_one (ps_ret (pe_cal c_raw_web hr (by decide) (by rfl) (pa_cons (pe_fld (pv 0) rfl) (pa_cons (pe_op op_cat (pe_callTy call_list_of (by rfl) T.list (by decide +kernel) (pa_cons (pe_fld (pv 0) rfl) pa_nil)) (pe_cal c_shifted hr (by decide) (by rfl) (pa_cons (pe_fld (pv 1) rfl) (pa_cons (pe_callB call_len_seq (by rfl) T.len (by decide +kernel) (pa_cons (pe_fld (pv 0) rfl) pa_nil)) pa_nil)))) pa_nil))))), ?_⟩
    refine ⟨_, rfl, _, rfl, x, y, folk, hs, hs2, ok1, ok2, rfl, w1, w2, ?_⟩
    obtain ⟨a, C, dx, fs, yy, kf, kh, kl, xf, xh, rfl, oa, ha, c, f1, f2, f3, f4, f5, ⟨wa, ws, rfl, hwa, pw⟩, _⟩ := w1
    obtain ⟨a', C', dx', fs', yy', kf', kh', kl', xf', xh', rfl, oa', ha', c', f1', f2', f3', f4', f5', wsat', _⟩ := w2
    have lw := pw.length
    have n1 := k1.n1
    have n2 := k2.n1
    have big := sizeBig
    refine ⟨_, rfl, a, C, dx, fs, _, rfl, ha, c.cl, c.n1, f1, ?_⟩
    refine ⟨_, rfl, a, C, dx, fs, _, rfl, ha, c.cl, c.n2, f2, wa, ws, rfl, .inr (SqT.of hwa), fun l nl => ?_⟩
    have sm1 : Same H (upd H l (.lst ws)) := same_upd nl
    have gl : upd H l (.lst ws) l = some (.lst ws) := upd_same
    generalize upd H l (.lst ws) = H1 at sm1 gl ⊢
    refine ⟨_, rfl, a', C', dx', fs', _, rfl, sm1 _ _ ha', c'.cl, c'.n2, f2', _, rfl, a, C, dx, fs, _, rfl, sm1 _ _ ha, c.cl, c.n2, f2, wa, ws, rfl, .inr (SqT.of (sm1 _ _ hwa)), ?_⟩
    refine ⟨yy', _, hs2, rfl, wsat'.ts (TS.of sm1), by omega, fun ds hds => by have := (k2.ok ds hds).len; omega, fun L xs H2 sm2 nL hL pL => ?_⟩
    have lL := pL.length
    rw [List.length_map] at lL
    refine ⟨l, L, ws, xs, rfl, rfl, sm2 _ _ gl, hL, by omega, fun p np => ?_⟩
    have smE := (sm1.trans sm2).trans (same_upd (o := .lst (ws ++ xs)) np)
    refine ⟨folk, p, ws ++ xs, hs ++ hs2.map (fun ds => ds.map (Hd.shift ws.length)), ok, rfl, upd_same, paired_app (paired_ts (fun _ _ h => (HsAt.hols h).same smE) pw) (paired_ts (fun _ _ h => h.same (same_upd np)) pL), by have := k1.f0; omega, by have := k1.f1; omega, by rw [List.length_append, List.length_map]; omega,
      fun ds hds => ?_, fun b e => okn b ?_, fun z hs3 H' l3 web sm3 => q z hs3 H' (by rw [l3, List.length_append, List.length_map]) web (smE.trans sm3)⟩
    · rcases List.mem_append.mp hds with hds | hds
      · exact (k1.ok ds hds).fb
      · obtain ⟨ds', h1, rfl⟩ := List.mem_map.mp hds
        obtain ⟨b1, b2⟩ := (k2.ok ds' h1).fb
        refine ⟨by rw [List.length_map]; exact b1, fun k hk => ?_⟩
        obtain ⟨d, h2, h3⟩ := List.mem_map.mp hk
        cases d with
        | f j =>
          have : j = k := Hd.f.inj h3
          rw [← this]
          exact b2 j h2
        | h j => cases h3
    · cases z : H b with
      | none => rfl
      | some o => rw [smE _ _ z] at e; cases e
end
end K23
/-! Half of the shares, in a web. -/
namespace K23
open PySem PySem.Spec PyProof.Rows L2
/-- a test that may be read in two ways -/
def tAlt (t t' : TT) : TT := fun σ H Q => t σ H Q ∨ t' σ H Q
theorem pt_alt {X : Cx} {e : Expr} {t t' : TT} (h : PT X e t) (h' : PT X e t') : PT X e (tAlt t t') :=
  ⟨fun pins s σ H Q I q => q.elim (fun q => h.run pins s σ H Q I q) fun q => h'.run pins s σ H Q I q⟩
/-- some houses: a tuple of them, or a dict that has them for keys -/
def SetAt (K : PySem.W.Frag) (H : Hp) (y : V) (S : List Int) : Prop := (∃ a, y = .ref a ∧ SqT K H a (S.map V.int)) ∨ ∃ (a : Addr) (os : List (Int × Int)), y = .ref a ∧ Rd H a (.dK (os.map entI)) ∧ S = os.map (·.1)
theorem SetAt.same {K : PySem.W.Frag} {H H' : Hp} {y : V} {S : List Int} (h : SetAt K H y S) (k : Same H H') : SetAt K H' y S := by
  rcases h with ⟨a, e, h⟩ | ⟨a, os, e, h, r⟩
  · refine .inl ⟨a, e, ?_⟩
    rcases h with (h | ⟨o, h⟩) | h
    · exact .inl (.inl (k _ _ h))
    · exact .inl (.inr ⟨o, k _ _ h⟩)
    · exact .inr h
  · refine .inr ⟨a, os, e, ?_, r⟩
    rcases h with h | ⟨o, h⟩
    · exact .inl (k _ _ h)
    · exact .inr ⟨o, k _ _ h⟩
theorem val_some (n : Int) : ∀ os : List (Int × Int), (valV (os.map entI) (Sum.inl n)).isSome = decide (n ∈ os.map (·.1))
  | [] => rfl
  | q :: r => by
    have ih := val_some n r
    unfold valV at ih ⊢
    rw [List.map_cons, List.find?_cons]
    show (Option.map _ (match decide ((Sum.inl q.1 : Key) = Sum.inl n) with | true => some (entI q) | false => _)).isSome = _
    rw [inl_dec]
    by_cases e : q.1 = n
    · rw [decide_eq_true e, decide_eq_true (by rw [List.map_cons, e]; exact List.mem_cons_self)]
      rfl
    · rw [decide_eq_false e]
      show (Option.map _ (List.find? _ (r.map entI))).isSome = _
      rw [ih]
      by_cases z : n ∈ r.map (·.1)
      · rw [decide_eq_true z, List.map_cons, decide_eq_true (List.mem_cons_of_mem _ z)]
      · rw [decide_eq_false z, List.map_cons, decide_eq_false fun y => (List.mem_cons.mp y).elim (fun x => e x.symm) z]
theorem lot_len {f : Int} {lot : List Int} (h : LotOk f lot) (hf : f ≤ 1000) : lot.length ≤ 1000 := by
  have nd : lot.Nodup := by
    rw [List.nodup_iff_pairwise_ne]
    exact h.asc.imp fun h => Int.ne_of_lt h
  have := nodup_length f.toNat lot nd fun x hx => by
    have := h.bnd x hx
    omega
  omega
theorem LotOk.nodup {f : Int} {lot : List Int} (h : LotOk f lot) : lot.Nodup := by
  rw [List.nodup_iff_pairwise_ne]
  exact h.asc.imp fun h => Int.ne_of_lt h
section
variable {P : Program} {w : World} {K : PySem.W.Frag} {mg : Str → Option Value} {base : Heap}
abbrev n_shares_with : List Str := ["web", "house", "lot", "houses", "many", "person", "owner", "shares"]
theorem sc_shares_with : FnScope n_shares_with ["web", "house", "lot", "houses"] (defScope s_shares_with) := ⟨rfl, rfl, rfl, by decide +kernel, rfl, by decide +kernel, by decide +kernel⟩
def spSharesW (K : PySem.W.Frag) : Sp := fun vs H Q _ => ∃ (x l y : V) (k folk : Int) (hs : List (List Hd)) (lot S : List Int) (ds : List Hd) (ok : Addr → Prop), vs = [x, .int k, l, y] ∧ WebAt K ok H x folk hs ∧ RowAt H l lot ∧ LotOk folk lot ∧ folk ≤ 1000 ∧ SetAt K H y S ∧
  0 ≤ k ∧ hs[k.toNat]? = some ds ∧ ∀ H', Same H H' → Q (.int ((ds.filter (Hd.ours lot S)).length : Nat)) H'
theorem ok_shares_with (T : Txt K mg) (D : Df K mg "shares_with" s_shares_with ["web", "house", "lot", "houses"]) : Cal CX0 P w K mg base 1 "shares_with" (spSharesW K) := by
  refine D.cal sc_shares_with (fun vs H Q E h => ?_) (fun f cdv A outer s H vs Q E hr h => ?_)
  · obtain ⟨x, l, y, k, folk, hs, lot, S, ds, ok, rfl, _⟩ := h
    rfl
  · obtain ⟨x, l, y, k, folk, hs, lot, S, ds, ok, rfl, web, ⟨la, rfl, hla⟩, lok, f1, hS, k0, hk, q⟩ := h
    have hu := hu_of hr
    have nd := sc_shares_with.nd
    refine ⟨_, pss_cons (ps_set (i := 4) nd rfl (Or.inl rfl) (pe_callB (cr_sum rfl) (by rfl) T.sum (by decide +kernel) (pa_cons (pe_lc (own := [("person", 5)]) (g := (gName 5)) (tt := tYes) rfl nd (pi_tup (pv 2)) (blkOk_by (N := n_shares_with) (sc := defScope s_shares_with) (by decide +kernel)) (fun _ _ _ _ _ => (pg_name (i := 5) nd rfl (Or.inl rfl))) (fun _ _ _ _ _ => pts_nil) (fun _ _ _ _ _ => (pe_ix (ix_listK K) (pe_ix (ix_listK K) (pe_fldK K (pv 0) rfl) (pv 1) (fun _ _ => rfl)) (pv 5) (fun _ _ => rfl)))) pa_nil)))
      (pss_one (ps_ret (pe_op op_add (pv 4) (pe_callB (cr_sum rfl) (by rfl) T.sum (by decide +kernel) (pa_cons (pe_lc (own := [("owner", 6), ("shares", 7)]) (g := (gTup K 2 (gCons (gName 6) (gCons (gName 7) gNil)))) rfl nd (pi_list (pe_ix ix_list (pe_fld (pv 0) rfl) (pv 1) (fun _ _ => rfl))) (blkOk_by (N := n_shares_with) (sc := defScope s_shares_with) (by decide +kernel)) (fun _ _ _ _ _ => (pg_tup rfl (pgs_cons (pg_name (i := 6) nd rfl (Or.inl rfl)) (pgs_cons (pg_name (i := 7) nd rfl (Or.inl rfl)) pgs_nil)))) (fun _ _ _ _ _ => (pts_one (pt_alt (pt_cmpR (op_inK K) (pv 6) (pv 3) (by rfl)) (pt_cmp (pc_din hu (pv 6) (pv 3)))))) (fun _ _ _ _ _ => (pv 7))) pa_nil))))), ?_⟩
    obtain ⟨a, C, dx, fs, yy, kf, kh, kl, xf, xh, rfl, oa, ha, c, g1, g2, g3, g4, g5, ws, o1, o2, o3, h1, h2, h3, p1, p2⟩ := web
    have big := sizeBig
    have ll := lot_len lok f1
    have kn : k = ((k.toNat : Nat) : Int) := (Int.toNat_of_nonneg k0).symm
    obtain ⟨vf, hvf, q1, ns, rfl, oq1, hq1, hns⟩ := paired_at' p1 hk
    obtain ⟨vh, hvh, q2, xs, os, rfl, oq2, hq2, pos, own, los⟩ := paired_at' p2 hk
    -- many
    refine ⟨_, rfl, la, rfl, ⟨_, SqT.of hla⟩, fun o no => ?_⟩
    refine lc_tup (a := la) (xs := lot.map V.int) (fun i H1 => Same H H1 ∧ H1 o = some (.lst (((lot.take i).map (cnt ds)).map V.int))) ⟨same_upd no, upd_same⟩ (fun i H1 _ ⟨e, _⟩ => SqT.of (e _ _ hla)) ?_ ?_
    · rintro i x H1 hi ⟨sm, ho⟩
      rw [List.getElem?_map] at hi
      obtain ⟨j, hj, rfl⟩ := Option.map_eq_some_iff.mp hi
      have hil := (List.getElem?_eq_some_iff.mp hj).1
      obtain ⟨j0, j1⟩ := lok.bnd j (List.mem_of_getElem? hj)
      have jn : j = ((j.toNat : Nat) : Int) := (Int.toNat_of_nonneg j0).symm
      have hnj := hns j j0 j1
      refine ⟨rfl, tyes ?_⟩
      refine ⟨_, rfl, a, C, dx, fs, _, rfl, sm _ _ ha, c.cl, c.n3, g3, _, rfl, kf, xf, k, .ref q1, rfl, rfl, SqL.of (sm _ _ h1), at_of kn hvf, _, rfl, q1, _, j, .int (cnt ds j), rfl, rfl, SqL.of (sm _ _ hq1), at_of jn (by rw [List.getElem?_map, hnj]; rfl), ?_⟩
      refine ⟨_, ho, ?_, same_written sm no, ?_⟩
      · rw [List.length_map, List.length_map, List.length_take]
        omega
      · rw [upd_same, List.take_add_one, hj, List.map_append, List.map_append]
        rfl
    rintro H1 ⟨sm, ho⟩
    rw [List.length_map, List.take_length] at ho
    refine ⟨o, _, rfl, SqL.of ho, ?_⟩
    rw [lot_sum ds lot lok.nodup]
    -- the houses' part
    refine ⟨_, rfl, _, rfl, a, C, dx, fs, _, rfl, sm _ _ ha, c.cl, c.n4, g4, _, rfl, kh, xh, k, .ref q2, rfl, rfl, SqL.of (sm _ _ h2), at_of kn hvh, q2, rfl, ⟨_, SqL.of (sm _ _ hq2)⟩, fun o' no' => ?_⟩
    have lxs := pos.length
    refine lc_list (a := q2) (xs := xs) (fun i H2 => Same H1 H2 ∧ H2 o' = some (.lst ((((os.take i).filter fun q => decide (q.1 ∈ S)).map (·.2)).map V.int))) ⟨same_upd no', upd_same⟩ (fun i H2 _ ⟨e, _⟩ => SqL.of (e _ _ (sm _ _ hq2))) ?_ ?_
    · rintro i x H2 hi ⟨sm2, ho2⟩
      have hil := (List.getElem?_eq_some_iff.mp hi).1
      obtain ⟨e, he, t, rfl, ht⟩ := paired_at pos hi
      have ft := filter_take (fun q : Int × Int => decide (q.1 ∈ S)) os i e he
      have small : (((os.take i).filter fun q => decide (q.1 ∈ S))).length ≤ i := Nat.le_trans (List.length_filter_le _ _) (List.length_take_le _ _)
      have sm02 := sm.trans sm2
      refine ⟨t, _, rfl, SqT.of (sm02 _ _ ht), rfl, _, _, rfl, _, _, rfl, rfl, rfl, ?_⟩
      have yes : e.1 ∈ S → ∃ acc, H2 o' = some (.lst acc) ∧ acc.length < sizeLine ∧ Same H1 (upd H2 o' (.lst (acc ++ [.int e.2]))) ∧ upd H2 o' (.lst (acc ++ [.int e.2])) o' = some (.lst ((((os.take (i + 1)).filter fun q => decide (q.1 ∈ S)).map (·.2)).map V.int)) := fun z => by
        refine ⟨_, ho2, by rw [List.length_map, List.length_map]; omega, same_written sm2 no', ?_⟩
        rw [upd_same, ft, if_pos (decide_eq_true z), List.map_append, List.map_append]
        rfl
      have no : ¬ e.1 ∈ S → Same H1 H2 ∧ H2 o' = some (.lst ((((os.take (i + 1)).filter fun q => decide (q.1 ∈ S)).map (·.2)).map V.int)) := fun z => by
        refine ⟨sm2, ?_⟩
        rw [ft, if_neg (by rw [decide_eq_false z]; exact Bool.false_ne_true)]
        exact ho2
      rcases hS.same sm02 with ⟨b, rfl, hb⟩ | ⟨b, ks, rfl, hb, rfl⟩
      · refine .inl ⟨_, rfl, _, rfl, in_ints (.inr hb) ⟨_, rfl, ite2 (fun z => ⟨_, rfl, yes (of_decide_eq_true z)⟩) (fun z => no fun y => z (decide_eq_true y))⟩⟩
      · refine .inr ⟨_, rfl, _, rfl, b, valV (ks.map entI) (Sum.inl e.1), rfl, .inl ⟨_, Sum.inl e.1, hb, rfl, rfl⟩, ?_⟩
        rw [val_some]
        exact ⟨_, rfl, ite2 (fun z => ⟨_, rfl, yes (of_decide_eq_true z)⟩) (fun z => no fun y => z (decide_eq_true y))⟩
    · rintro H2 ⟨sm2, ho2⟩
      rw [lxs, List.take_length] at ho2
      refine ⟨o', _, rfl, SqL.of ho2, _, _, rfl, rfl, ?_⟩
      have e : ((ds.filter (Hd.ours lot S)).length : Int) = ((ds.filter (fIn lot)).length : Int) + ((os.filter fun q => decide (q.1 ∈ S)).map (·.2)).sum := by
        have := own S
        unfold sumS at this
        rw [this, ours_split]
        omega
      have q' := q H2 (sm.trans sm2)
      rw [e] at q'
      exact q'
end
end K23
/-! Checks; what a lot carries; its row. -/
namespace K23
open PySem PySem.Spec PyProof.Rows L2
section
variable {P : Program} {w : World} {K : PySem.W.Frag} {mg : Str → Option Value} {base : Heap}
abbrev n_is_house : List Str := ["web", "thing"]
theorem sc_is_house : FnScope n_is_house ["web", "thing"] (defScope s_is_house) := ⟨rfl, rfl, rfl, by decide +kernel, rfl, by decide +kernel, by decide +kernel⟩
def spIsHouse (K : PySem.W.Frag) : Sp := fun vs H Q _ => ∃ (x : V) (k folk : Int) (hs : List (List Hd)) (ok : Addr → Prop), vs = [x, .int k] ∧ WebAt K ok H x folk hs ∧ 0 ≤ k ∧ k < hs.length ∧ Q (.bl true) H
theorem ok_is_house (T : Txt K mg) (c_is_within : Cal CX0 P w K mg base 2 "is_within" spIsWithin) (D : Df K mg "is_house" s_is_house ["web", "thing"]) : Cal CX0 P w K mg base 3 "is_house" (spIsHouse K) := by
  refine D.cal sc_is_house (fun vs H Q E h => ?_) (fun f cdv A outer s H vs Q E hr h => ?_)
  · obtain ⟨x, k, folk, hs, ok, rfl, _⟩ := h
    rfl
  · obtain ⟨x, k, folk, hs, ok, rfl, web, k0, k1, q⟩ := h
    have nd := sc_is_house.nd
    refine ⟨_, pss_one (ps_ret (pe_cal c_is_within hr (by decide) (by rfl) (pa_cons (pv 1) (pa_cons pe_int (pa_cons (pe_op op_sub (pe_callB call_len_seq (by rfl) T.len (by decide +kernel) (pa_cons (pe_fld (pv 0) rfl) pa_nil)) pe_int) pa_nil))))), ?_⟩
    obtain ⟨a, C, dx, fs, yy, kf, kh, kl, xf, xh, rfl, oa, ha, c, g1, g2, g3, g4, g5, ⟨wa, ws, rfl, hwa, pw⟩, _⟩ := web
    have lw := pw.length
    refine ⟨_, rfl, _, rfl, a, C, dx, fs, _, rfl, ha, c.cl, c.n2, g2, wa, ws, rfl, .inr (SqT.of hwa), _, 1, rfl, rfl, k, 0, _, rfl, ?_⟩
    rw [decide_eq_true k0, decide_eq_true (show k ≤ (ws.length : Int) - 1 by omega)]
    exact q
abbrev n_check_house : List Str := ["web", "thing"]
theorem sc_check_house : FnScope n_check_house ["web", "thing"] (defScope s_check_house) := ⟨rfl, rfl, rfl, by decide +kernel, rfl, by decide +kernel, by decide +kernel⟩
def spCheckHouse (K : PySem.W.Frag) : Sp := fun vs H Q _ => ∃ (x : V) (k folk : Int) (hs : List (List Hd)) (ok : Addr → Prop), vs = [x, .int k] ∧ WebAt K ok H x folk hs ∧ 0 ≤ k ∧ k < hs.length ∧ Q .non H
theorem ok_check_house (c_is_house : Cal CX0 P w K mg base 3 "is_house" (spIsHouse K)) (D : Df K mg "check_house" s_check_house ["web", "thing"]) : Cal CX0 P w K mg base 4 "check_house" (spCheckHouse K) := by
  refine D.cal sc_check_house (fun vs H Q E h => ?_) (fun f cdv A outer s H vs Q E hr h => ?_)
  · obtain ⟨x, k, folk, hs, ok, rfl, _⟩ := h
    rfl
  · obtain ⟨x, k, folk, hs, ok, rfl, web, k0, k1, q⟩ := h
    have nd := sc_check_house.nd
    refine ⟨_, pss_one (ps_if (pt_not (pt_val (pe_cal c_is_house hr (by decide) (by rfl) (pa_cons (pv 0) (pa_cons (pv 1) pa_nil))))) (pss_one ps_never) pss_nil), ?_⟩
    exact ⟨_, rfl, _, rfl, x, k, folk, hs, ok, rfl, web, k0, k1, true, rfl, iteF q⟩
abbrev n_check_lot : List Str := ["web", "thing"]
theorem sc_check_lot : FnScope n_check_lot ["web", "thing"] (defScope s_check_lot) := ⟨rfl, rfl, rfl, by decide +kernel, rfl, by decide +kernel, by decide +kernel⟩
def spCheckLot (K : PySem.W.Frag) : Sp := fun vs H Q _ => ∃ (x l : V) (folk : Int) (hs : List (List Hd)) (lot : List Int) (ok : Addr → Prop), vs = [x, l] ∧ WebAt K ok H x folk hs ∧ RowAt H l lot ∧ LotOk folk lot ∧ folk ≤ 1000 ∧ ∀ H', Same H H' → Q .non H'
theorem ok_check_lot (c_is_lot : Cal CX0 P w K mg base 3 "is_lot" spIsLot) (D : Df K mg "check_lot" s_check_lot ["web", "thing"]) : Cal CX0 P w K mg base 4 "check_lot" (spCheckLot K) := by
  refine D.cal sc_check_lot (fun vs H Q E h => ?_) (fun f cdv A outer s H vs Q E hr h => ?_)
  · obtain ⟨x, l, folk, hs, lot, ok, rfl, _⟩ := h
    rfl
  · obtain ⟨x, l, folk, hs, lot, ok, rfl, web, hl, lok, f1, q⟩ := h
    have nd := sc_check_lot.nd
    refine ⟨_, pss_one (ps_if (pt_not (pt_val (pe_cal c_is_lot hr (by decide) (by rfl) (pa_cons (pe_fld (pv 0) rfl) (pa_cons (pv 1) pa_nil))))) (pss_one ps_never) pss_nil), ?_⟩
    obtain ⟨a, C, dx, fs, yy, kf, kh, kl, xf, xh, rfl, oa, ha, c, g1, g2, g3, g4, g5, ws, _⟩ := web
    exact ⟨_, rfl, a, C, dx, fs, _, rfl, ha, c.cl, c.n1, g1, _, rfl, folk, l, lot, rfl, hl, lot_len lok f1, lok, fun H' sm => ⟨true, rfl, iteF (q H' sm)⟩⟩
abbrev n_check_lot_and_house : List Str := ["web", "lot", "house"]
theorem sc_check_lot_and_house : FnScope n_check_lot_and_house ["web", "lot", "house"] (defScope s_check_lot_and_house) := ⟨rfl, rfl, rfl, by decide +kernel, rfl, by decide +kernel, by decide +kernel⟩
def spCheckLH (K : PySem.W.Frag) : Sp := fun vs H Q _ => ∃ (x l : V) (h folk : Int) (hs : List (List Hd)) (lot : List Int) (ok : Addr → Prop), vs = [x, l, .int h] ∧ WebAt K ok H x folk hs ∧ RowAt H l lot ∧ LotOk folk lot ∧ folk ≤ 1000 ∧ 0 ≤ h ∧ h < hs.length ∧ ∀ H', Same H H' → Q .non H'
theorem ok_check_lot_and_house (c_check_lot : Cal CX0 P w K mg base 4 "check_lot" (spCheckLot K)) (c_check_house : Cal CX0 P w K mg base 4 "check_house" (spCheckHouse K)) (D : Df K mg "check_lot_and_house" s_check_lot_and_house ["web", "lot", "house"]) : Cal CX0 P w K mg base 5 "check_lot_and_house" (spCheckLH K) := by
  refine D.cal sc_check_lot_and_house (fun vs H Q E h => ?_) (fun f cdv A outer s H vs Q E hr h => ?_)
  · obtain ⟨x, l, h, folk, hs, lot, ok, rfl, _⟩ := h
    rfl
  · obtain ⟨x, l, h, folk, hs, lot, ok, rfl, web, hl, lok, f1, h0, h1, q⟩ := h
    have nd := sc_check_lot_and_house.nd
    refine ⟨_, pss_cons (ps_expr (pe_cal c_check_lot hr (by decide) (by rfl) (pa_cons (pv 0) (pa_cons (pv 1) pa_nil))))
      (pss_one (ps_expr (pe_cal c_check_house hr (by decide) (by rfl) (pa_cons (pv 0) (pa_cons (pv 2) pa_nil))))), ?_⟩
    exact ⟨_, rfl, _, rfl, x, l, folk, hs, lot, ok, rfl, web, hl, lok, f1, fun H' sm => ⟨_, rfl, _, rfl, x, h, folk, hs, ok, rfl, web.keep (Keeps.same sm), h0, h1, q H' sm⟩⟩
abbrev n_has_half : List Str := ["web", "house", "lot", "houses"]
theorem sc_has_half : FnScope n_has_half ["web", "house", "lot", "houses"] (defScope s_has_half) := ⟨rfl, rfl, rfl, by decide +kernel, rfl, by decide +kernel, by decide +kernel⟩
/-- a web whose houses are right, and a lot -/
structure WL (K : PySem.W.Frag) (ok : Addr → Prop) (H : Hp) (x l : V) (folk : Int) (hs : List (List Hd)) (lot : List Int) : Prop where
  web : WebAt K ok H x folk hs
  hl : RowAt H l lot
  lok : LotOk folk lot
  wok : WebOk folk hs
theorem WL.same {ok : Addr → Prop} {H H' : Hp} {x l : V} {folk : Int} {hs : List (List Hd)} {lot : List Int} (h : WL K ok H x l folk hs lot) (k : Same H H') : WL K ok H' x l folk hs lot := ⟨h.web.keep (Keeps.same k), h.hl.ts (TS.of k), h.lok, h.wok⟩
def spHalfW (K : PySem.W.Frag) : Sp := fun vs H Q _ => ∃ (x l y : V) (k folk : Int) (hs : List (List Hd)) (lot S : List Int) (ok : Addr → Prop), vs = [x, .int k, l, y] ∧ WL K ok H x l folk hs lot ∧ SetAt K H y S ∧ 0 ≤ k ∧ k < hs.length ∧ ∀ H', Same H H' → Q (.bl (hfOf hs lot k S)) H'
theorem ok_has_half (T : Txt K mg) (c_shares_with : Cal CX0 P w K mg base 1 "shares_with" (spSharesW K)) (D : Df K mg "has_half" s_has_half ["web", "house", "lot", "houses"]) : Cal CX0 P w K mg base 2 "has_half" (spHalfW K) := by
  refine D.cal sc_has_half (fun vs H Q E h => ?_) (fun f cdv A outer s H vs Q E hr h => ?_)
  · obtain ⟨x, l, y, k, folk, hs, lot, S, ok, rfl, _⟩ := h
    rfl
  · obtain ⟨x, l, y, k, folk, hs, lot, S, ok, rfl, wl, hS, k0, k1, q⟩ := h
    have nd := sc_has_half.nd
    refine ⟨_, pss_one (ps_ret (pe_cmpR op_ge (pe_cal c_shares_with hr (by decide) (by rfl) (pa_cons (pv 0) (pa_cons (pv 1) (pa_cons (pv 2) (pa_cons (pv 3) pa_nil))))) (pe_ix ix_list (pe_fld (pv 0) rfl) (pv 1) (fun _ _ => rfl)) (nomark _))), ?_⟩
    have kl' : k.toNat < hs.length := by omega
    have hk : hs[k.toNat]? = some hs[k.toNat] := List.getElem?_eq_getElem kl'
    have f6 := wl.wok.f1
    have hok := wl.wok.ok _ (List.getElem_mem kl')
    have odd := hok.odd
    have kn : k = ((k.toNat : Nat) : Int) := (Int.toNat_of_nonneg k0).symm
    refine ⟨_, rfl, _, rfl, _, rfl, _, rfl, x, l, y, k, folk, hs, lot, S, _, ok, rfl, wl.web, wl.hl, wl.lok, by omega, hS, k0, hk, fun H1 sm => ?_⟩
    have web := wl.web.keep (Keeps.same sm)
    obtain ⟨a, C, dx, fs, yy, kf, kh, kl, xf, xh, rfl, oa, ha, c, g1, g2, g3, g4, g5, ws, o1, o2, o3, h1, h2, h3, p1, p2⟩ := web
    refine ⟨_, rfl, a, C, dx, fs, _, rfl, ha, c.cl, c.n5, g5, _, rfl, kl, _, k, .int (halfN hs[k.toNat]), rfl, rfl, SqL.of h3, at_of kn (by rw [List.getElem?_map, hk]; rfl), _, _, rfl, rfl, ?_⟩
    have e : hfOf hs lot k S = decide (halfN hs[k.toNat] ≤ ((hs[k.toNat].filter (Hd.ours lot S)).length : Nat)) := by
      unfold hfOf halfD halfN
      rw [List.getD_eq_getElem?_getD, hk, Option.getD_some]
      by_cases z : hs[k.toNat].length < 2 * (hs[k.toNat].filter (Hd.ours lot S)).length
      · rw [decide_eq_true z, decide_eq_true (by omega)]
      · rw [decide_eq_false z, decide_eq_false (by omega)]
    have q' := q H1 sm
    rw [e] at q'
    exact q'
end
end K23
/-! What a lot carries; its row. -/
namespace K23
open PySem PySem.Spec PyProof.Rows L2
/-- what is shut holds all rows -/
theorem shut_all {N : Nat} {hf : Int → List Int → Bool} (m : Mono hf) {S : List Int} (s : Shut N hf S) {r : List Int} (h : IsRow N hf r) : ∀ x ∈ r, x ∈ S := by
  induction h with
  | nil => intro x hx; cases hx
  | @snoc r k h1 h2 h3 h4 h5 ih =>
    intro x hx
    rcases List.mem_append.mp hx with hx | hx
    · exact ih x hx
    · rw [List.mem_singleton.mp hx]
      by_cases e : k ∈ S
      · exact e
      · have := m k r S ih h5
        rw [s k h2 h3 e] at this
        cases this
theorem shut_never {N : Nat} {hf : Int → List Int → Bool} (m : Mono hf) {S : List Int} (s : Shut N hf S) {h : Int} (hn : h ∉ S) : Never N hf h := fun r hr he => hn (shut_all m s hr h he.mem)
/-- the dict of what is carried: each with its place -/
def Idx (os : List (Int × Int)) (r : List Int) : Prop := os.map (·.1) = r ∧ os.map (·.2) = upto r.length
theorem putO_new (n v : Int) : ∀ os : List (Int × Int), n ∉ os.map (·.1) → putO os n v = os ++ [(n, v)]
  | [], _ => rfl
  | q :: r, h => by
    have e : ¬ q.1 = n := fun z => h (by rw [← z]; exact List.mem_cons_self)
    rw [show putO (q :: r) n v = q :: putO r n v from if_neg e, putO_new n v r fun z => h (List.mem_cons_of_mem _ z)]
    rfl
theorem upto_succ (n : Nat) : upto (n + 1) = upto n ++ [(n : Int)] := by
  unfold upto
  rw [List.range_succ, List.map_append]
  rfl
theorem Idx.snoc {os : List (Int × Int)} {r : List Int} (h : Idx os r) (k : Int) : Idx (os ++ [(k, (r.length : Int))]) (r ++ [k]) := by
  refine ⟨?_, ?_⟩
  · rw [List.map_append, h.1]
    rfl
  · rw [List.map_append, h.2, List.length_append, List.length_singleton, upto_succ]
    rfl
theorem Idx.len {os : List (Int × Int)} {r : List Int} (h : Idx os r) : os.length = r.length := by
  rw [← h.1, List.length_map]
theorem getO_at : ∀ {os : List (Int × Int)} {i : Nat} {k v : Int}, KN os → os[i]? = some (k, v) → getO os k = v
  | [], _, _, _, _, h => by simp at h
  | q :: r, 0, k, v, _, h => by
    simp at h
    subst h
    exact if_pos rfl
  | q :: r, i + 1, k, v, kn, h => by
    have kn' := List.nodup_cons.mp (show (q.1 :: r.map (·.1)).Nodup from kn)
    have h' : r[i]? = some (k, v) := by simpa using h
    have e : ¬ q.1 = k := fun z => kn'.1 (by rw [z]; exact List.mem_map.mpr ⟨_, List.mem_of_getElem? h', rfl⟩)
    rw [show getO (q :: r) k = getO r k from if_neg e]
    exact getO_at kn'.2 h'
theorem Idx.get {os : List (Int × Int)} {r : List Int} (h : Idx os r) {i : Nat} {k : Int} (e : r[i]? = some k) : os[i]? = some (k, (i : Int)) := by
  have hl := (List.getElem?_eq_some_iff.mp e).1
  have ho : i < os.length := by rw [h.len]; exact hl
  have e1 : (os.map (·.1))[i]? = some k := by rw [h.1]; exact e
  have e2 : (os.map (·.2))[i]? = some (i : Int) := by rw [h.2]; exact get_upto hl
  rw [List.getElem?_map, List.getElem?_eq_getElem ho] at e1 e2
  rw [List.getElem?_eq_getElem ho]
  have a1 := Option.some.inj e1
  have a2 := Option.some.inj e2
  exact congrArg some (Prod.ext a1 a2)
theorem val_at {os : List (Int × Int)} {k : Int} (h : k ∈ os.map (·.1)) : valV (os.map entI) (Sum.inl k) = some (.int (getO os k)) := by
  have h1 := val_some k os
  have h2 := val_ent k os
  rw [decide_eq_true h] at h1
  cases e : valV (os.map entI) (Sum.inl k) with
  | none => rw [e] at h1; cases h1
  | some v =>
    rw [e] at h2
    exact congrArg some h2
section
variable {P : Program} {w : World} {K : PySem.W.Frag} {mg : Str → Option Value} {base : Heap}
abbrev n_carried_of : List Str := ["web", "lot", "found", "grown", "house"]
theorem sc_carried_of : FnScope n_carried_of ["web", "lot"] (defScope s_carried_of) := ⟨rfl, rfl, rfl, by decide +kernel, rfl, by decide +kernel, by decide +kernel⟩
def spCarriedOf (K : PySem.W.Frag) : Sp := fun vs H Q _ => ∃ (x l : V) (folk : Int) (hs : List (List Hd)) (lot : List Int) (ok : Addr → Prop), vs = [x, l] ∧ WL K ok H x l folk hs lot ∧
  ∀ (d : Addr) (os : List (Int × Int)) (r : List Int) (H' : Hp), Same H H' → H d = none → H' d = some (.dK (os.map entI)) → Idx os r → IsRow hs.length (hfOf hs lot) r → Shut hs.length (hfOf hs lot) r → Q (.ref d) H'
theorem ok_carried_of (T : Txt K mg) (c_has_half : Cal CX0 P w K mg base 2 "has_half" (spHalfW K)) (D : Df K mg "carried_of" s_carried_of ["web", "lot"]) : Cal CX0 P w K mg base 3 "carried_of" (spCarriedOf K) := by
  refine D.cal sc_carried_of (fun vs H Q E h => ?_) (fun f cdv A outer s H vs Q E hr h => ?_)
  · obtain ⟨x, l, folk, hs, lot, ok, rfl, _⟩ := h
    rfl
  · obtain ⟨x, l, folk, hs, lot, ok, rfl, wl, q⟩ := h
    have hu := hu_of hr
    have nd := sc_carried_of.nd
    refine ⟨_, pss_cons (ps_set (i := 2) nd rfl (Or.inl rfl) pe_dnewK)
      (pss_cons (ps_set (i := 3) nd rfl (Or.inl rfl) pe_bl)
      (pss_cons (ps_while PassesOwn.never (pt_val (pv 3))
        (pss_cons (ps_set (i := 3) nd rfl (Or.inl rfl) pe_bl)
        (pss_one (ps_for PassesOwn.never rfl (pi_range1 (by rfl) T.range (pa_cons (pe_callB call_len_seq (by rfl) T.len (by decide +kernel) (pa_cons (pe_fld (pv 0) rfl) pa_nil)) pa_nil)) (pg_name (i := 4) nd rfl (Or.inl rfl))
          (pss_one (ps_if (PW.pt (pw_and (pt_cmp (pc_dnotin hu (pv 4) (pv 2))) (pw_and1 (pt_val (pe_cal c_has_half hr (by decide) (by rfl) (pa_cons (pv 0) (pa_cons (pv 4) (pa_cons (pv 1) (pa_cons (pv 2) pa_nil))))))))) (pss_cons (ps_dput hu (pv 2) (pv 4) (pe_callB call_lenD (by rfl) T.len (by decide +kernel) (pa_cons (pv 2) pa_nil)) rfl)
            (pss_one (ps_set (i := 3) nd rfl (Or.inl rfl) pe_bl))) pss_nil))))))
      (pss_one (ps_ret (pv 2))))), ?_⟩
    have n12 := wl.wok.n1
    have big := sizeBig
    have m : Mono (hfOf hs lot) := hfOf_mono hs lot
    have lenW : ∀ H', Same H H' → ∃ (a C dx : Addr) (fs : List (Str × V)) (wa : Addr) (ws : List V), x = .ref a ∧ H' a = some (.ins C dx fs) ∧ WCls K C ∧ fs.lookup ("houses" : Str) = some (.ref wa) ∧ H' wa = some (.tup ws) ∧ ws.length = hs.length := fun H' sm => by
      obtain ⟨a, C, dx, fs, yy, kf, kh, kl, xf, xh, e, oa, ha, c, g1, g2, g3, g4, g5, ⟨wa, ws, rfl, hwa, pw⟩, _⟩ := (wl.same sm).web
      exact ⟨a, C, dx, fs, wa, ws, e, ha, c, g2, hwa, pw.length⟩
    refine fun d nd0 => ?_
    have sm0 : Same H (upd H d (.dK [])) := same_upd nd0
    have g0 : upd H d (.dK []) d = some (.dK (([] : List (Int × Int)).map entI)) := upd_same
    generalize upd H d (.dK []) = H0 at sm0 g0 ⊢
    refine ⟨fun n σ H1 => ∃ (g : Bool) (o4 : Option V) (os : List (Int × Int)) (r : List Int), σ = [some x, some l, some (.ref d), some (.bl g), o4] ∧ Same H H1 ∧ H1 d = some (.dK (os.map entI)) ∧ Idx os r ∧ IsRow hs.length (hfOf hs lot) r ∧ (g = false → Shut hs.length (hfOf hs lot) r) ∧
      n = (if g = true then hs.length + 1 - r.length else 0), ⟨_, true, _, [], [], rfl, sm0, g0, ⟨rfl, rfl⟩, .nil, (fun z => by cases z), rfl⟩, ?_⟩
    rintro n σ H1 ⟨g, o4, os, r, rfl, sm, hd, ix, row, sh, rfl⟩
    refine ⟨_, rfl, g, rfl, ?_⟩
    cases g with
    | false => exact iteF ⟨_, rfl, q d os r H1 sm nd0 hd ix row (sh rfl)⟩
    | true =>
      refine iteT ?_
      have lr := row.length_le
      refine ⟨fun σ' H' => ∃ (g : Bool) (o4 : Option V) (os' : List (Int × Int)) (r' : List Int), σ' = [some x, some l, some (.ref d), some (.bl g), o4] ∧ Same H H' ∧ H' d = some (.dK (os'.map entI)) ∧ Idx os' r' ∧ IsRow hs.length (hfOf hs lot) r' ∧ ((g = true ∧ r.length < r'.length) ∨ (g = false ∧ Shut hs.length (hfOf hs lot) r')), ?_, ?_⟩
      · rintro σ' H' ⟨g, o4', os', r', rfl, sm', hd', ix', row', gg⟩
        have lr' := row'.length_le
        rcases gg with ⟨rfl, gg⟩ | ⟨rfl, gg⟩
        · exact ⟨hs.length + 1 - r'.length, by rw [if_pos rfl]; omega, true, o4', os', r', rfl, sm', hd', ix', row', (fun z => by cases z), rfl⟩
        · exact ⟨0, by rw [if_pos rfl]; omega, false, o4', os', r', rfl, sm', hd', ix', row', (fun _ => gg), rfl⟩
      · obtain ⟨a, C, dx, fs, wa, ws, rfl, ha, c, g2, hwa, lw⟩ := lenW H1 sm
        refine ⟨_, rfl, a, C, dx, fs, _, rfl, ha, c.cl, c.n2, g2, wa, ws, rfl, .inr (SqT.of hwa), _, rfl, by omega, by omega, for_range (lo := 0) (n := (ws.length : Int).toNat) (fun i σ H2 => ∃ (g : Bool) (o4 : Option V) (os' : List (Int × Int)) (r' : List Int), σ = [some (.ref a), some l, some (.ref d), some (.bl g), o4] ∧ Same H H2 ∧
          H2 d = some (.dK (os'.map entI)) ∧ Idx os' r' ∧ IsRow hs.length (hfOf hs lot) r' ∧ ((g = true ∧ r.length < r'.length) ∨ (g = false ∧ r' = r ∧ ∀ k : Int, 0 ≤ k → k < (i : Int) → k ∉ r → hfOf hs lot k r = false))) ?_ ?_ ?_⟩
        · exact ⟨false, _, os, r, rfl, sm, hd, ix, row, .inr ⟨rfl, rfl, fun k k0 k1 => by omega⟩⟩
        · rintro i σ H2 hi ⟨g, o4', os', r', rfl, sm2, hd2, ix2, row2, gg⟩
          rw [Int.toNat_natCast] at hi
          rw [Int.zero_add (i : Int)]
          have lr2 := row2.length_le
          -- where it is not taken
          have skip : ∀ H3, Same H2 H3 → (((i : Int) ∈ r') ∨ hfOf hs lot (i : Int) r' = false) → ∃ (g' : Bool) (p4 : Option V) (os' : List (Int × Int)) (r' : List Int), [some (V.ref a), some l, some (.ref d), some (.bl g), some (.int i)] = [some (.ref a), some l, some (.ref d), some (.bl g'), p4] ∧ Same H H3 ∧
              H3 d = some (.dK (os'.map entI)) ∧ Idx os' r' ∧ IsRow hs.length (hfOf hs lot) r' ∧ ((g' = true ∧ r.length < r'.length) ∨ (g' = false ∧ r' = r ∧ ∀ k : Int, 0 ≤ k → k < ((i + 1 : Nat) : Int) → k ∉ r → hfOf hs lot k r = false)) := fun H3 sm3 why => by
            refine ⟨_, _, os', r', rfl, sm2.trans sm3, sm3 _ _ hd2, ix2, row2, ?_⟩
            rcases gg with gg | ⟨h1, h2, h3⟩
            · exact .inl gg
            · subst h2
              refine .inr ⟨h1, rfl, fun k k0 k1 kn => ?_⟩
              by_cases e : k = (i : Int)
              · rw [e] at kn ⊢
                exact why.resolve_left kn
              · exact h3 k k0 (by omega) kn
          refine ⟨_, rfl, _, rfl, d, _, rfl, .inl ⟨_, Sum.inl (i : Int), .inl hd2, rfl, rfl⟩, ?_⟩
          rw [val_some, ix2.1]
          refine ⟨_, rfl, ite2 (fun e1 => ?_) (fun e1 => ?_)⟩
          · have ni : (i : Int) ∉ r' := fun z => by rw [decide_eq_true z] at e1; cases e1
            refine ⟨_, rfl, _, rfl, _, rfl, _, rfl, .ref a, l, .ref d, (i : Int), folk, hs, lot, r', ok, rfl, wl.same sm2, .inr ⟨d, os', rfl, .inl hd2, ix2.1.symm⟩, by omega, by omega, fun H3 sm3 => ⟨_, rfl, ite2 (fun e2 => ?_) (fun e2 => ?_)⟩⟩
            · have hd3 := sm3 _ _ hd2
              have kn2 : KN os' := by
                unfold KN
                rw [ix2.1]
                exact row2.nodup
              refine ⟨_, rfl, d, _, rfl, hd3, _, rfl, _, rfl, d, _, rfl, .inl ⟨_, Sum.inl (i : Int), hd3, rfl, ?_, rfl⟩, ?_⟩
              · rw [List.length_map, ix2.len]
                omega
              · rw [put_ent _ _ _ kn2, putO_new _ _ _ (by rw [ix2.1]; exact ni)]
                have el : (((os'.map entI).length : Nat) : Int) = (r'.length : Int) := by rw [List.length_map, ix2.len]
                rw [el]
                refine ⟨true, _, os' ++ [((i : Int), (r'.length : Int))], r' ++ [(i : Int)], rfl, same_written (sm2.trans sm3) nd0, upd_same, ix2.snoc _, .snoc row2 (by omega) (by omega) ni e2, .inl ⟨rfl, ?_⟩⟩
                rw [List.length_append, List.length_singleton]
                rcases gg with gg | gg
                · omega
                · rw [gg.2.1]
                  omega
            · refine skip H3 sm3 (.inr ?_)
              cases z : hfOf hs lot (i : Int) r' with
              | false => rfl
              | true => exact absurd z e2
          · refine skip H2 (fun _ _ e => e) (.inl ?_)
            by_cases z : (i : Int) ∈ r'
            · exact z
            · exact absurd (by rw [decide_eq_false z]; rfl) e1
        · rintro σ H2 ⟨g, o4', os', r', rfl, sm2, hd2, ix2, row2, gg⟩
          refine ⟨g, _, os', r', rfl, sm2, hd2, ix2, row2, ?_⟩
          rcases gg with gg | ⟨h1, h2, h3⟩
          · exact .inl gg
          · rw [h2]
            exact .inr ⟨h1, fun k k0 k1 kn => h3 k k0 (by omega) kn⟩
abbrev n_row : List Str := ["web", "lot", "house", "found", "other"]
theorem sc_row : FnScope n_row ["web", "lot", "house"] (defScope s_row) := ⟨rfl, rfl, rfl, by decide +kernel, rfl, by decide +kernel, by decide +kernel⟩
def spRow (K : PySem.W.Frag) : Sp := fun vs H Q _ => ∃ (x l : V) (h folk : Int) (hs : List (List Hd)) (lot : List Int) (ok : Addr → Prop), vs = [x, l, .int h] ∧ WL K ok H x l folk hs lot ∧ 0 ≤ h ∧ h < hs.length ∧
  ∀ (y : V) (H' : Hp), Same H H' → ((y = .non ∧ Never hs.length (hfOf hs lot) h) ∨ ∃ r, RowAt H' y r ∧ IsRow hs.length (hfOf hs lot) r ∧ Ends r h) → Q y H'
theorem ok_row (T : Txt K mg) (c_carried_of : Cal CX0 P w K mg base 3 "carried_of" (spCarriedOf K)) (c_check_lot_and_house : Cal CX0 P w K mg base 5 "check_lot_and_house" (spCheckLH K)) (D : Df K mg "row" s_row ["web", "lot", "house"]) : Cal CX0 P w K mg base 6 "row" (spRow K) := by
  refine D.cal sc_row (fun vs H Q E h => ?_) (fun f cdv A outer s H vs Q E hr h => ?_)
  · obtain ⟨x, l, h, folk, hs, lot, ok, rfl, _⟩ := h
    rfl
  · obtain ⟨x, l, h, folk, hs, lot, ok, rfl, wl, h0, h1, q⟩ := h
    have hu := hu_of hr
    have nd := sc_row.nd
    refine ⟨_, pss_cons (ps_expr (pe_cal c_check_lot_and_house hr (by decide) (by rfl) (pa_cons (pv 0) (pa_cons (pv 1) (pa_cons (pv 2) pa_nil)))))
      (pss_cons (ps_set (i := 3) nd rfl (Or.inr rfl) (pe_cal c_carried_of hr (by decide) (by rfl) (pa_cons (pv 0) (pa_cons (pv 1) pa_nil))))
      (pss_cons (ps_if (pt_cmp (pc_dnotin hu (pv 2) (pv 3))) (pss_one (ps_ret pe_non)) pss_nil)
      (pss_one (ps_lock (ps_ret (pe_callTy call_tuple_of (by rfl) T.tuple (by decide +kernel) (pa_cons (pe_lc (own := [("other", 4)]) (g := (gName 4)) rfl nd (pi_keys (pv 3)) (blkOk_by (N := n_row) (sc := defScope s_row) (by decide +kernel)) (fun _ _ _ _ _ => (pg_name (i := 4) nd rfl (Or.inl rfl))) (fun _ _ _ _ _ => (pts_one (pt_cmpR op_le (pe_dget hu (pv 3) (pv 4) (fun _ _ => rfl)) (pe_dget hu (pv 3) (pv 2) (fun _ _ => rfl)) (nomark _)))) (fun _ _ _ _ _ => (pv 4))) pa_nil))))))), ?_⟩
    have n12 := wl.wok.n1
    have f6 := wl.wok.f1
    have big := sizeBig
    have m : Mono (hfOf hs lot) := hfOf_mono hs lot
    refine ⟨_, rfl, _, rfl, _, rfl, x, l, h, folk, hs, lot, ok, rfl, wl.web, wl.hl, wl.lok, by omega, h0, h1, fun H1 sm1 => ?_⟩
    refine ⟨_, rfl, _, rfl, x, l, folk, hs, lot, ok, rfl, wl.same sm1, fun d os r H2 sm2 nd0 hd ix row sh => ?_⟩
    have lr := row.length_le
    have kn : KN os := by
      unfold KN
      rw [ix.1]
      exact row.nodup
    refine ⟨_, rfl, _, rfl, d, _, rfl, .inl ⟨_, Sum.inl h, .inl hd, rfl, rfl⟩, ?_⟩
    rw [val_some, ix.1]
    refine ⟨_, rfl, ite2 (fun e => ?_) (fun e => ?_)⟩
    · have nh : h ∉ r := fun z => by rw [decide_eq_true z] at e; cases e
      exact q _ H2 (sm1.trans sm2) (.inl ⟨rfl, shut_never m sh nh⟩)
    · have yh : h ∈ r := by
        by_cases z : h ∈ r
        · exact z
        · exact absurd (by rw [decide_eq_false z]; rfl) e
      obtain ⟨j, hj⟩ := List.mem_iff_getElem?.mp yh
      have hjl := (List.getElem?_eq_some_iff.mp hj).1
      -- the dict is locked
      refine ⟨d, .dK (os.map entI), hd, trivial, fun od => ?_⟩
      have unl : ∀ H3, Same (upd H2 d (.frz od (.dK (os.map entI)))) H3 → Same H2 (upd H3 d (.dK (os.map entI))) := fun H3 k => same_lock hd k
      have hL : upd H2 d (.frz od (.dK (os.map entI))) d = some (.frz od (.dK (os.map entI))) := upd_same
      generalize upd H2 d (.frz od (.dK (os.map entI))) = HL at unl hL ⊢
      refine ⟨_, rfl, d, od, rfl, .inl ⟨_, hL, fun o no => ?_⟩⟩
      refine lc_it walk_keys (fun i H3 => Same HL H3 ∧ H3 o = some (.lst ((r.take (min i (j + 1))).map V.int))) ⟨same_upd no, by rw [upd_same, Nat.min_eq_left (Nat.zero_le _)]; rfl⟩ (fun i H3 _ ⟨e, _⟩ => e _ _ hL) ?_ ?_
      · rintro i y H3 H3' hi ⟨sm3, ho⟩ ⟨rfl, k, v, hkv, rfl⟩
        rw [List.length_map, ix.len] at hi
        have hri : r[i]? = some r[i] := List.getElem?_eq_getElem hi
        have hoi := ix.get hri
        rw [List.getElem?_map, hoi] at hkv
        have hkv := Option.some.inj hkv
        have hk : k = Sum.inl r[i] := (congrArg Prod.fst hkv).symm
        subst hk
        have mi : r[i] ∈ os.map (·.1) := by rw [ix.1]; exact List.getElem_mem hi
        have mh : h ∈ os.map (·.1) := by rw [ix.1]; exact yh
        have v1 : valV (os.map entI) (Sum.inl r[i]) = some (.int (i : Int)) := by rw [val_at mi, getO_at kn hoi]
        have v2 : valV (os.map entI) (Sum.inl h) = some (.int (j : Int)) := by rw [val_at mh, getO_at kn (ix.get hj)]
        have hd3 := sm3 _ _ hL
        refine ⟨rfl, _, rfl, _, rfl, d, .int (i : Int), rfl, .inl ⟨_, Sum.inl r[i], .inr ⟨od, hd3⟩, rfl, v1.symm⟩, _, rfl, _, rfl, d, .int (j : Int), rfl, .inl ⟨_, Sum.inl h, .inr ⟨od, hd3⟩, rfl, v2.symm⟩, _, _, rfl, rfl, _, rfl, ite2 (fun e => ?_) (fun e => ?_)⟩
        · have e := of_decide_eq_true e
          refine ⟨_, rfl, _, ho, ?_, same_written sm3 no, ?_⟩
          · rw [List.length_map, List.length_take]
            omega
          · rw [upd_same, Nat.min_eq_left (show i ≤ j + 1 by omega), Nat.min_eq_left (show i + 1 ≤ j + 1 by omega), List.take_add_one, hri, List.map_append]
            rfl
        · have e : ¬ (i : Int) ≤ j := fun z => e (decide_eq_true z)
          refine ⟨sm3, ?_⟩
          rw [ho, Nat.min_eq_right (show j + 1 ≤ i by omega), Nat.min_eq_right (show j + 1 ≤ i + 1 by omega)]
      · rintro H3 ⟨sm3, ho⟩
        refine ⟨o, _, rfl, .inl ⟨SqL.of ho, fun t nt => ?_⟩⟩
        rw [List.length_map, ix.len, Nat.min_eq_right (show j + 1 ≤ r.length by omega)] at *
        have sm4 := sm3.trans (same_upd (o := .tup ((r.take (j + 1)).map V.int)) nt)
        refine ⟨sm4 _ _ hL, ?_⟩
        have td : t ≠ d := (ne_of_none (sm3 _ _ hL) nt).symm
        refine q _ _ ((sm1.trans sm2).trans (unl _ sm4)) (.inr ⟨r.take (j + 1), ⟨t, rfl, by rw [upd_ne td, upd_same]⟩, ?_, ?_⟩)
        · have e : IsRow hs.length (hfOf hs lot) (r.take (j + 1) ++ r.drop (j + 1)) := by rw [List.take_append_drop]; exact row
          exact IsRow.pre rfl e
        · rw [List.take_add_one, hj]
          exact ⟨_, rfl⟩
end
end K23
/-! Longer rows; the shortest row. -/
namespace K23
open PySem PySem.Spec PyProof.Rows L2
section
variable {P : Program} {w : World} {K : PySem.W.Frag} {mg : Str → Option Value} {base : Heap}
/-- the houses of a web, where they stand -/
theorem WebAt.len {ok : Addr → Prop} {H : Hp} {x : V} {folk : Int} {hs : List (List Hd)} (h : WebAt K ok H x folk hs) : ∃ (a C dx : Addr) (fs : List (Str × V)) (wa : Addr) (ws : List V), x = .ref a ∧ H a = some (.ins C dx fs) ∧ WCls K C ∧ fs.lookup ("houses" : Str) = some (.ref wa) ∧ H wa = some (.tup ws) ∧ ws.length = hs.length := by
  obtain ⟨a, C, dx, fs, yy, kf, kh, kl, xf, xh, e, oa, ha, c, g1, g2, g3, g4, g5, ⟨wa, ws, rfl, hwa, pw⟩, _⟩ := h
  exact ⟨a, C, dx, fs, wa, ws, e, ha, c, g2, hwa, pw.length⟩
theorem WebAt.off {ok : Addr → Prop} {H : Hp} {x : V} {folk : Int} {hs : List (List Hd)} {k : Addr} {kvs : List (List Key × V)} (h : WebAt K ok H x folk hs) (hk : H k = some (.dT kvs)) : WebAt K (fun b => ok b ∧ b ≠ k) H x folk hs := by
  obtain ⟨a, C, dx, fs, y, kf, kh, kl, xf, xh, e, oa, ha, c, f1, f2, f3, f4, f5, ws, o1, o2, o3, h1, h2, h3, p1, p2⟩ := h
  have nl : ∀ {b : Addr} {xs : List V}, H b = some (.lst xs) → b ≠ k := fun e => ne_of e hk (fun z => nomatch z)
  refine ⟨a, C, dx, fs, y, kf, kh, kl, xf, xh, e, ⟨oa, ne_of ha hk (fun z => nomatch z)⟩, ha, c, f1, f2, f3, f4, f5, ws, ⟨o1, nl h1⟩, ⟨o2, nl h2⟩, ⟨o3, nl h3⟩, h1, h2, h3, paired_ts (fun _ _ q => ?_) p1, paired_ts (fun _ _ q => ?_) p2⟩
  · obtain ⟨q, ns, e, o, hq, r⟩ := q
    exact ⟨q, ns, e, ⟨o, nl hq⟩, hq, r⟩
  · obtain ⟨q, xs, os, e, o, hq, r⟩ := q
    exact ⟨q, xs, os, e, ⟨o, nl hq⟩, hq, r⟩
/-- a web and a lot, while a table is locked -/
theorem WL.lock {ok : Addr → Prop} {H : Hp} {x l : V} {folk : Int} {hs : List (List Hd)} {lot : List Int} {k : Addr} {kvs : List (List Key × V)} {o : HO} (h : WL K ok H x l folk hs lot) (hk : H k = some (.dT kvs)) : WL K (fun b => ok b ∧ b ≠ k) (upd H k o) x l folk hs lot := by
  have ts : TS H (upd H k o) := ts_lock hk
  exact ⟨(h.web.off hk).keep ⟨fun b u n e => by rw [upd_ne n.2]; exact e, ts⟩, h.hl.ts ts, h.lok, h.wok⟩
abbrev n_longer_rows : List Str := ["web", "lot", "rows", "later", "houses", "house", "here", "told"]
theorem sc_longer_rows : FnScope n_longer_rows ["web", "lot", "rows"] (defScope s_longer_rows) := ⟨rfl, rfl, rfl, by decide +kernel, rfl, by decide +kernel, by decide +kernel⟩
def spLonger (K : PySem.W.Frag) : Sp := fun vs H Q _ => ∃ (x l : V) (kn : Addr) (folk : Int) (hs : List (List Hd)) (lot : List Int) (ok : Addr → Prop) (n : Nat) (Dt : Tb), vs = [x, l, .ref kn] ∧ WL K ok H x l folk hs lot ∧ TbAt H kn Dt ∧ Lev hs.length (hfOf hs lot) n Dt ∧
  ∀ (d : Addr) (D' : Tb) (H' : Hp), Same H H' → H d = none → TbAt H' d D' → Lev hs.length (hfOf hs lot) (n + 1) D' → Q (.ref d) H'
theorem ok_longer_rows (T : Txt K mg) (c_has_half : Cal CX0 P w K mg base 2 "has_half" (spHalfW K)) (D : Df K mg "longer_rows" s_longer_rows ["web", "lot", "rows"]) : Cal CX0 P w K mg base 3 "longer_rows" (spLonger K) := by
  refine D.cal sc_longer_rows (fun vs H Q E h => ?_) (fun f cdv A outer s H vs Q E hr h => ?_)
  · obtain ⟨x, l, kn, folk, hs, lot, ok, n, Dt, rfl, _⟩ := h
    rfl
  · obtain ⟨x, l, kn, folk, hs, lot, ok, i, Dt, rfl, wl, ⟨kvs, hkn, pr⟩, LV, q⟩ := h
    have hu6 := hu60 hr
    have hu := hu_of hr
    have nd := sc_longer_rows.nd
    refine ⟨_, pss_cons (ps_set (i := 3) nd rfl (Or.inl rfl) pe_dnewT)
      (pss_cons (ps_lock (ps_for PassesOwn.never rfl (pi_keys (pv 2)) (pg_name (i := 4) nd rfl (Or.inl rfl))
        (pss_one (ps_for PassesOwn.never rfl (pi_range1 (by rfl) T.range (pa_cons (pe_callB call_len_seq (by rfl) T.len (by decide +kernel) (pa_cons (pe_fld (pv 0) rfl) pa_nil)) pa_nil)) (pg_name (i := 5) nd rfl (Or.inl rfl))
          (pss_one (ps_if (PW.pt (pw_and (pt_cmpR op_notIn_seq (pv 5) (pv 4) (by rfl)) (pw_and1 (pt_val (pe_cal c_has_half hr (by decide) (by rfl) (pa_cons (pv 0) (pa_cons (pv 5) (pa_cons (pv 1) (pa_cons (pv 4) pa_nil))))))))) (pss_cons (ps_set (i := 6) nd rfl (Or.inl rfl) (pe_callTy call_tuple_of (by rfl) T.tuple (by decide +kernel) (pa_cons (pe_callB (cr_sortIT hu6) (by rfl) T.sorted (by decide +kernel) (pa_cons (pe_op op_catA (pv 4) (pe_tup (pa_cons (pv 5) pa_nil))) pa_nil)) pa_nil)))
            (pss_cons (ps_set (i := 7) nd rfl (Or.inl rfl) (pe_op op_catA (pe_dget hu (pv 2) (pv 4) (fun _ _ => rfl)) (pe_tup (pa_cons (pv 5) pa_nil))))
            (pss_one (ps_if (PW.pt (pw_or (pt_cmp (pc_dnotin hu (pv 6) (pv 3))) (pw_or1 (pt_cmpR (op_ltE hu6) (pv 7) (pe_dget hu (pv 3) (pv 6) (fun _ _ => rfl)) (nomark _))))) (pss_one (ps_dput hu (pv 3) (pv 6) (pv 7) rfl)) pss_nil)))) pss_nil))))))
      (pss_one (ps_ret (pv 3)))), ?_⟩
    have few := wl.wok.n1
    have big := sizeBig
    have m : Mono (hfOf hs lot) := hfOf_mono hs lot
    have lD : Dt.length ≤ 4096 := Nat.le_trans (ents_size LV.nd LV.ok) (Nat.pow_le_pow_right (by omega) few)
    have lp := pr.length
    -- later = {}
    refine fun lt nlt => ?_
    have ltk : kn ≠ lt := ne_of_none hkn nlt
    have hkn1 : upd H lt (.dT []) kn = some (.dT kvs) := by rw [upd_ne ltk]; exact hkn
    refine ⟨kn, .dT kvs, hkn1, trivial, fun od2 => ?_⟩
    have hkB : upd H kn (.frz od2 (.dT kvs)) kn = some (.frz od2 (.dT kvs)) := upd_same
    have nltB : upd H kn (.frz od2 (.dT kvs)) lt = none := by rw [upd_ne ltk.symm]; exact nlt
    have tsB : TS H (upd H kn (.frz od2 (.dT kvs))) := ts_lock hkn
    have prB := paired_ts (fun _ _ q => EntAt.ts q tsB) pr
    have unl : ∀ H3, Same (upd H kn (.frz od2 (.dT kvs))) H3 → Same H (upd H3 kn (.dT kvs)) := fun H3 k => same_lock hkn k
    have wlB := wl.lock (o := .frz od2 (.dT kvs)) hkn
    have smC : Same (upd H kn (.frz od2 (.dT kvs))) (upd (upd H lt (.dT [])) kn (.frz od2 (.dT kvs))) := fun b x z => by
      by_cases n : b = kn
      · subst n
        rw [upd_same] at z ⊢
        exact z
      · rw [upd_ne n] at z ⊢
        rw [upd_ne (fun y => by rw [y, nlt] at z; cases z)]
        exact z
    have hltC : upd (upd H lt (.dT [])) kn (.frz od2 (.dT kvs)) lt = some (.dT []) := by rw [upd_ne ltk.symm, upd_same]
    generalize upd (upd H lt (.dT [])) kn (.frz od2 (.dT kvs)) = HC at smC hltC ⊢
    generalize upd H kn (.frz od2 (.dT kvs)) = HB at hkB nltB prB smC unl wlB
    refine ⟨_, rfl, kn, od2, rfl, .inr ⟨kvs, smC _ _ hkB, for_it walk_keysT (fun j σ H5 => ∃ o4 o5 o6 o7 D', σ = [some x, some l, some (.ref kn), some (.ref lt), o4, o5, o6, o7] ∧ Same HB H5 ∧
      TbAt H5 lt D' ∧ Mid hs.length (hfOf hs lot) i D' (fun e _ => e ∈ Dt.take j)) ?_ (fun j σ H5 _ ⟨_, _, _, _, _, _, z, _⟩ => z _ _ hkB) ?_ ?_⟩⟩
    · exact ⟨_, _, _, _, [], rfl, smC, ⟨[], hltC, .nil⟩, Mid.zero.mono fun e k z _ => by simp at z⟩
    · rintro j y σ H5 H5' hj ⟨o4, o5, o6, o7, D', rfl, sm5, tb5, MD⟩ ⟨rfl, k, v, qa, hkv, rfl, hq⟩
      obtain ⟨e, he1, he2, hq', hv⟩ := key_at prB hkv hq
      have E := LV.ok e he2
      obtain ⟨a, C, dx, fs, wa, ws, rfl, ha, c, g2, hwa, lw⟩ := (wlB.same sm5).web.len
      refine ⟨_, rfl, a, C, dx, fs, _, rfl, ha, c.cl, c.n2, g2, wa, ws, rfl, .inr (SqT.of hwa), _, rfl, by omega, by omega, for_range (lo := 0) (n := (ws.length : Int).toNat) (fun k σ H6 => ∃ o5 o6 o7 D', σ = [some (.ref a), some l, some (.ref kn), some (.ref lt), some (.ref qa), o5, o6, o7] ∧ Same HB H6 ∧
        H6 qa = some (.tup (e.1.map V.int)) ∧ TbAt H6 lt D' ∧ Mid hs.length (hfOf hs lot) i D' (fun e' k' => e' ∈ Dt.take j ∨ (e' = e ∧ k' < (k : Int)))) ?_ ?_ ?_⟩
      · refine ⟨_, _, _, D', rfl, sm5, hq', tb5, MD.mono fun e' k' z c => ?_⟩
        rcases z with z | ⟨_, z⟩
        · exact z
        · exact absurd c.1 (by omega)
      · rintro k σ H6 hk ⟨o5, o6, o7, D2, rfl, sm6, hq6, tb6, MD6⟩
        rw [Int.toNat_natCast] at hk
        rw [Int.zero_add (k : Int)]
        have skip : ∀ H7, Same HB H7 → H7 qa = some (.tup (e.1.map V.int)) → TbAt H7 lt D2 → ¬ Cand hs.length (hfOf hs lot) e (k : Int) → ∃ p5 p6 p7 D', [some (V.ref a), some l, some (.ref kn), some (.ref lt), some (.ref qa), some (.int k), o6, o7] = [some (.ref a), some l, some (.ref kn), some (.ref lt), some (.ref qa), p5, p6, p7] ∧ Same HB H7 ∧
            H7 qa = some (.tup (e.1.map V.int)) ∧ TbAt H7 lt D' ∧ Mid hs.length (hfOf hs lot) i D' (fun e' k' => e' ∈ Dt.take j ∨ (e' = e ∧ k' < ((k + 1 : Nat) : Int))) := fun H7 s7 q7 t7 nc => by
          refine ⟨_, _, _, D2, rfl, s7, q7, t7, MD6.mono fun e' k' z c => ?_⟩
          rcases z with z | ⟨z1, z2⟩
          · exact .inl z
          · by_cases n : k' = (k : Int)
            · rw [z1, n] at c
              exact absurd c nc
            · exact .inr ⟨z1, by omega⟩
        have lr1 : e.1.length ≤ 1000 := by
          rw [E.perm.length_eq]
          have := E.row.length_le
          omega
        have lr2 : e.2.length ≤ 1000 := by
          have := E.row.length_le
          omega
        refine ⟨_, rfl, _, rfl, notin_ints (.inr (SqT.of hq6)) ⟨_, rfl, ite2 (fun e1 => ?_) (fun e1 => ?_)⟩⟩
        · refine ⟨_, rfl, _, rfl, _, rfl, _, rfl, .ref a, l, .ref qa, (k : Int), folk, hs, lot, e.1, _, rfl, wlB.same sm6, .inl ⟨qa, rfl, SqT.of hq6⟩, by omega, by omega, fun H7 sm7 => ⟨_, rfl, ite2 (fun e2 => ?_) (fun e2 => ?_)⟩⟩
          · -- a candidate
            have cand : Cand hs.length (hfOf hs lot) e (k : Int) := ⟨by omega, by omega, (fun z => by rw [decide_eq_true z] at e1; cases e1), e2⟩
            obtain ⟨kv2, hlt6, pr6⟩ := tb6
            have hq7 := sm7 _ _ hq6
            -- here
            refine ⟨_, rfl, _, rfl, sz (by show 1 ≤ 1000000; omega), fun t nt => cat_row (r := e.1) (k := (k : Int)) (same_upd nt _ _ hq7) upd_same lr1 fun z1 H8 sm8 hz1 => ?_⟩
            obtain ⟨za, rfl, hza⟩ := hz1
            refine ⟨za, _, rfl, .inr (SqT.of hza), sz (by rw [List.length_append, List.length_singleton]; omega), fun ms p np pm asc => ⟨p, _, rfl, .inl ⟨SqL.of upd_same, fun tm ntm => ?_⟩⟩⟩
            have sm9 : Same H6 (upd (upd H8 p (.lst (ms.map V.int))) tm (.tup (ms.map V.int))) := (((sm7.trans (same_upd nt)).trans sm8).trans (same_upd np)).trans (same_upd ntm)
            have gtm : upd (upd H8 p (.lst (ms.map V.int))) tm (.tup (ms.map V.int)) tm = some (.tup (ms.map V.int)) := upd_same
            generalize upd (upd H8 p (.lst (ms.map V.int))) tm (.tup (ms.map V.int)) = H9 at sm9 gtm ⊢
            -- told
            obtain ⟨x, hx1, ⟨xr, rfl, hxr⟩⟩ := tb_own prB LV.nd he2
            have smB9 := sm6.trans sm9
            refine ⟨_, rfl, _, rfl, kn, .ref xr, rfl, ?_, _, rfl, sz (by show 1 ≤ 1000000; omega), fun t2 nt2 => cat_row (r := e.2) (k := (k : Int)) (same_upd nt2 _ _ (smB9 _ _ hxr)) upd_same lr2 fun z2 H10 sm10 hz2 => ?_⟩
            · rw [← hx1]
              exact DGet.tl (smB9 _ _ hkB) (sm9 _ _ hq6)
            have sm610 : Same H6 H10 := sm9.trans ((same_upd nt2).trans sm10)
            have hlt10 := sm610 _ _ hlt6
            have gtm10 : H10 tm = some (.tup (ms.map V.int)) := sm10 _ _ (same_upd nt2 _ _ gtm)
            have pr10 := paired_ts (fun _ _ q => EntAt.ts q (TS.of sm610)) pr6
            have smB10 := sm6.trans sm610
            have MS := MD6.step m E cand pm asc
            have hq10 := sm610 _ _ hq6
            have lk := ents_size MD6.nd MD6.ok
            have lk2 : D2.length ≤ 4096 := Nat.le_trans lk (Nat.pow_le_pow_right (by omega) few)
            have lk3 := pr10.length
            have fin : ∀ (H11 : Hp) (D3 : Tb), D3 = stepD D2 ms (e.2 ++ [(k : Int)]) → Same HB H11 → H11 qa = some (.tup (e.1.map V.int)) → TbAt H11 lt D3 → ∃ p5 p6 p7 D', [some (V.ref a), some l, some (.ref kn), some (.ref lt), some (.ref qa), some (.int k), some (.ref tm), some z2] = [some (.ref a), some l, some (.ref kn), some (.ref lt), some (.ref qa), p5, p6, p7] ∧ Same HB H11 ∧
                H11 qa = some (.tup (e.1.map V.int)) ∧ TbAt H11 lt D' ∧ Mid hs.length (hfOf hs lot) i D' (fun e' k' => e' ∈ Dt.take j ∨ (e' = e ∧ k' < ((k + 1 : Nat) : Int))) := fun H11 D3 e3 s11 q11 t11 => by
              subst e3
              refine ⟨_, _, _, _, rfl, s11, q11, t11, MS.mono fun e' k' z c => ?_⟩
              rcases z with z | ⟨z1, z2⟩
              · exact .inl (.inl z)
              · by_cases n : k' = (k : Int)
                · exact .inr ⟨z1, n⟩
                · exact .inl (.inr ⟨z1, by omega⟩)
            have gput := DPut.to (v := z2) hlt10 gtm10 (by omega)
            have tsP : TS H10 (upd H10 lt (.dT (putK kv2 (kI ms) z2))) := ts_lock hlt10
            have tbP : TbAt (upd H10 lt (.dT (putK kv2 (kI ms) z2))) lt (putD D2 ms (e.2 ++ [(k : Int)])) := ⟨_, upd_same, paired_ts (fun _ _ q => EntAt.ts q tsP) (tb_put hz2 pr10)⟩
            have smP : Same HB (upd H10 lt (.dT (putK kv2 (kI ms) z2))) := same_written smB10 nltB
            have gget := DGet.to hlt10 gtm10
            rcases tb_val ms pr10 with ⟨v1, v2⟩ | ⟨x', old, v1, v2, v3⟩
            · rw [v1] at gget
              refine ⟨_, rfl, _, rfl, lt, none, rfl, gget, ⟨_, rfl, iteT ?_⟩⟩
              refine ⟨_, rfl, _, rfl, _, rfl, lt, _, rfl, gput, fin _ _ ?_ smP (tsP _ _ hq10) tbP⟩
              unfold stepD
              rw [v2]
            · rw [v1] at gget
              refine ⟨_, rfl, _, rfl, lt, some x', rfl, gget, ⟨_, rfl, iteF ?_⟩⟩
              refine ⟨_, rfl, _, rfl, _, rfl, lt, x', rfl, gget, ltE_rows hz2 v3 ⟨_, rfl, ite2 (fun e3 => ?_) (fun e3 => ?_)⟩⟩
              · refine ⟨_, rfl, _, rfl, _, rfl, lt, _, rfl, gput, fin _ _ ?_ smP (tsP _ _ hq10) tbP⟩
                unfold stepD
                rw [v2]
                exact (if_pos e3).symm
              · refine fin H10 D2 ?_ smB10 hq10 ⟨kv2, hlt10, pr10⟩
                unfold stepD
                rw [v2]
                exact (if_neg e3).symm
          · exact skip H7 (sm6.trans sm7) (sm7 _ _ hq6) (by
              obtain ⟨kv2, z1, z2⟩ := tb6
              exact ⟨kv2, sm7 _ _ z1, paired_ts (fun _ _ q => EntAt.ts q (TS.of sm7)) z2⟩) fun c => e2 c.2.2.2
        · refine iteF ?_
          exact skip H6 sm6 hq6 tb6 fun c => e1 (by rw [decide_eq_false c.2.2.1]; rfl)
      · rintro σ H6 ⟨o5, o6, o7, D2, rfl, sm6, hq6, tb6, MD6⟩
        refine ⟨_, _, _, _, D2, rfl, sm6, tb6, MD6.mono fun e' k' z c => ?_⟩
        rw [List.take_add_one, he1] at z
        rcases List.mem_append.mp z with z | z
        · exact .inl z
        · right
          simp at z
          refine ⟨z, ?_⟩
          have := c.2.1
          omega
    · rintro σ H5 ⟨o4, o5, o6, o7, D', rfl, sm5, ⟨kv2, hlt5, pr5⟩, MD⟩
      refine ⟨sm5 _ _ hkB, ?_⟩
      have smU2 := unl H5 sm5
      have tsU2 : TS H5 (upd H5 kn (.dT kvs)) := ts_unlock (sm5 _ _ hkB)
      rw [lp, List.take_length] at MD
      exact ⟨_, rfl, q lt D' _ smU2 nlt ⟨kv2, by rw [upd_ne ltk.symm]; exact hlt5, paired_ts (fun _ _ q => EntAt.ts q tsU2) pr5⟩ (MD.lev m LV)⟩
end
end K23
/-! The shortest row. -/
namespace K23
open PySem PySem.Spec PyProof.Rows L2
section
variable {P : Program} {w : World} {K : PySem.W.Frag} {mg : Str → Option Value} {base : Heap}
abbrev n_check_many : List Str := ["number", "most"]
theorem sc_check_many : FnScope n_check_many ["number", "most"] (defScope s_check_many) := ⟨rfl, rfl, rfl, by decide +kernel, rfl, by decide +kernel, by decide +kernel⟩
def spMany0 : Sp := fun vs H Q _ => ∃ n m : Int, vs = [.int n, .int m] ∧ n ≤ m ∧ Q .non H
theorem ok_check_many0 (D : Df K mg "check_many" s_check_many ["number", "most"]) : Cal CX0 P w K mg base 1 "check_many" spMany0 := by
  refine D.cal sc_check_many (fun vs H Q E h => ?_) (fun f cdv A outer s H vs Q E hr h => ?_)
  · obtain ⟨n, m, rfl, _⟩ := h
    rfl
  · obtain ⟨n, m, rfl, le, q⟩ := h
    have nd := sc_check_many.nd
    refine ⟨_, pss_one (ps_if (pt_cmpR op_gt (pv 0) (pv 1) (nomark _)) (pss_one ps_never) pss_nil), ?_⟩
    refine ⟨_, rfl, _, rfl, _, _, rfl, rfl, _, rfl, ?_⟩
    rw [decide_eq_false (by omega)]
    exact iteF q
abbrev n_shortest_row : List Str := ["web", "lot", "house", "rows", "ready", "houses"]
theorem sc_shortest_row : FnScope n_shortest_row ["web", "lot", "house"] (defScope s_shortest_row) := ⟨rfl, rfl, rfl, by decide +kernel, rfl, by decide +kernel, by decide +kernel⟩
def spShort (K : PySem.W.Frag) : Sp := fun vs H Q _ => ∃ (x l : V) (h folk : Int) (hs : List (List Hd)) (lot : List Int) (ok : Addr → Prop), vs = [x, l, .int h] ∧ WL K ok H x l folk hs lot ∧ 0 ≤ h ∧ h < hs.length ∧
  ∀ (y : V) (H' : Hp), Same H H' → Ans H' y hs.length (hfOf hs lot) h → Q y H'
theorem ok_shortest_row (T : Txt K mg) (c_check_lot_and_house : Cal CX0 P w K mg base 5 "check_lot_and_house" (spCheckLH K)) (c_check_many : Cal CX0 P w K mg base 1 "check_many" spMany0) (c_has_half : Cal CX0 P w K mg base 2 "has_half" (spHalfW K))
    (c_longer_rows : Cal CX0 P w K mg base 3 "longer_rows" (spLonger K)) (D : Df K mg "shortest_row" s_shortest_row ["web", "lot", "house"]) : Cal CX0 P w K mg base 6 "shortest_row" (spShort K) := by
  refine D.cal sc_shortest_row (fun vs H Q E h => ?_) (fun f cdv A outer s H vs Q E hr h => ?_)
  · obtain ⟨x, l, h, folk, hs, lot, ok, rfl, _⟩ := h
    rfl
  · obtain ⟨x, l, h, folk, hs, lot, ok, rfl, wl, h0, h1, q⟩ := h
    have hu6 := hu60 hr
    have hu := hu_of hr
    have nd := sc_shortest_row.nd
    refine ⟨_, pss_cons (ps_expr (pe_cal c_check_lot_and_house hr (by decide) (by rfl) (pa_cons (pv 0) (pa_cons (pv 1) (pa_cons (pv 2) pa_nil)))))
      (pss_cons (ps_expr (pe_cal c_check_many hr (by decide) (by rfl) (pa_cons (pe_callB call_len_seq (by rfl) T.len (by decide +kernel) (pa_cons (pe_fld (pv 0) rfl) pa_nil)) (pa_cons (pe_gc rfl T.v_MOST_HOUSES_carrying) pa_nil))))
      (pss_cons (ps_set (i := 3) nd rfl (Or.inr rfl) (pe_dispT hu (pe_tup pa_nil) (pe_tup pa_nil)))
      (pss_cons (ps_while PassesOwn.never (pt_cmpR op_gt (pe_callB call_len_dT (by rfl) T.len (by decide +kernel) (pa_cons (pv 3) pa_nil)) pe_int (nomark _))
        (pss_cons (ps_lock (ps_setLc (i := 4) (own := [("houses", 5)]) (g := (gName 5)) rfl nd rfl rfl (sw_true rfl rfl rfl (by decide +kernel)) (pi_keys (pv 3)) (blkOk_by (N := n_shortest_row) (sc := defScope s_shortest_row) (by decide +kernel)) (fun _ _ _ _ _ => (pg_name (i := 5) nd rfl (Or.inl rfl))) (fun _ _ _ _ _ => (pts_one (pt_val (pe_cal c_has_half hr (by decide) (by rfl) (pa_cons (pv 0) (pa_cons (pv 2) (pa_cons (pv 1) (pa_cons (pv 5) pa_nil)))))))) (fun _ _ _ _ _ => (pe_dget hu (pv 3) (pv 5) (fun _ _ => rfl)))))
        (pss_cons (ps_if (pt_cmpR op_gt (pe_callB call_len_seq (by rfl) T.len (by decide +kernel) (pa_cons (pv 4) pa_nil)) pe_int (nomark _)) (pss_one (ps_ret (pe_op op_catA (pe_callB (cr_minR rfl hu6) (by rfl) T.min (by decide +kernel) (pa_cons (pv 4) pa_nil)) (pe_tup (pa_cons (pv 2) pa_nil))))) pss_nil)
        (pss_one (ps_set (i := 3) nd rfl (Or.inr rfl) (pe_cal c_longer_rows hr (by decide) (by rfl) (pa_cons (pv 0) (pa_cons (pv 1) (pa_cons (pv 3) pa_nil)))))))))
      (pss_one (ps_ret pe_non))))), ?_⟩
    have few := wl.wok.n1
    have f6 := wl.wok.f1
    have big := sizeBig
    have m : Mono (hfOf hs lot) := hfOf_mono hs lot
    refine ⟨_, rfl, _, rfl, _, rfl, x, l, h, folk, hs, lot, ok, rfl, wl.web, wl.hl, wl.lok, by omega, h0, h1, fun H1 sm1 => ?_⟩
    obtain ⟨a, C, dx, fs, wa, ws, rfl, ha, c, g2, hwa, lw⟩ := (wl.same sm1).web.len
    refine ⟨_, rfl, a, C, dx, fs, _, rfl, ha, c.cl, c.n2, g2, wa, ws, rfl, .inr (SqT.of hwa), _, 12, rfl, by omega, ?_⟩
    -- rows = {(): ()}
    refine fun kn nkn => ⟨sz (by show 0 ≤ 1000000; omega), fun t1 nt1 => ⟨sz (by show 0 ≤ 1000000; omega), fun t2 nt2 => ?_⟩⟩
    have nkt1 : kn ≠ t1 := ne_of_none upd_same nt1
    have nkt2 : kn ≠ t2 := ne_of_none (same_upd nt1 _ _ upd_same) nt2
    have g1 : upd (upd (upd H1 kn (.dT [])) t1 (.tup [])) t2 (.tup []) t1 = some (.tup []) := same_upd nt2 _ _ upd_same
    have g2' : upd (upd (upd H1 kn (.dT [])) t1 (.tup [])) t2 (.tup []) t2 = some (.tup []) := upd_same
    have gk : upd (upd (upd H1 kn (.dT [])) t1 (.tup [])) t2 (.tup []) kn = some (.dT []) := same_upd nt2 _ _ (same_upd nt1 _ _ upd_same)
    have sm0 : Same H1 (upd (upd (upd H1 kn (.dT [])) t1 (.tup [])) t2 (.tup [])) := (same_upd nkn).trans ((same_upd nt1).trans (same_upd nt2))
    generalize upd (upd (upd H1 kn (.dT [])) t1 (.tup [])) t2 (.tup []) = H0 at g1 g2' gk sm0 ⊢
    refine ⟨_, _, rfl, t1, [], rfl, g1, gk, ?_⟩
    have smk : Same H (upd H0 kn (.dT [([], .ref t2)])) := sm1.trans (same_written sm0 nkn)
    have tb0 : TbAt (upd H0 kn (.dT [([], .ref t2)])) kn [([], [])] := ⟨_, upd_same, .cons ⟨rfl, t2, rfl, by rw [upd_ne nkt2.symm]; exact g2'⟩ .nil⟩
    have nkn0 : H kn = none := by
      cases z : H kn with
      | none => rfl
      | some y => rw [sm1 _ _ z] at nkn; cases nkn
    generalize upd H0 kn (.dT [([], .ref t2)]) = H2 at smk tb0 ⊢
    refine ⟨fun μ σ H1 => ∃ (n : Nat) (kn : Addr) (o4 o5 : Option V) (Dt : Tb), σ = [some (.ref a), some l, some (.int h), some (.ref kn), o4, none] ∧ Same H H1 ∧ H kn = none ∧ TbAt H1 kn Dt ∧ Lev hs.length (hfOf hs lot) n Dt ∧ NoRow hs.length (hfOf hs lot) n h ∧ n ≤ hs.length + 1 ∧ μ = hs.length + 1 - n,
      ⟨_, 0, kn, _, none, _, rfl, smk, nkn0, tb0, .zero, .zero, by omega, rfl⟩, ?_⟩
    rintro μ σ H3 ⟨n, kn, o4, o5, Dt, rfl, sm, nkn, ⟨kvs, hkn, pr⟩, LV, NR, ln, rfl⟩
    clear tb0 smk g1 g2' gk sm0 nkn0
    have lD : Dt.length ≤ 4096 := Nat.le_trans (ents_size LV.nd LV.ok) (Nat.pow_le_pow_right (by omega) few)
    have lp := pr.length
    refine ⟨_, rfl, kn, kvs, rfl, hkn, _, _, rfl, rfl, _, rfl, ite2 (fun e => ?_) (fun e => ?_)⟩
    · have e := of_decide_eq_true e
      have ne : Dt ≠ [] := fun z => by
        rw [z] at lp
        rw [lp] at e
        simp at e
      have ln2 := LV.le ne
      refine ⟨fun σ' H' => ∃ (kn : Addr) (o4 : Option V) (D' : Tb), σ' = [some (.ref a), some l, some (.int h), some (.ref kn), o4, none] ∧ Same H H' ∧ H kn = none ∧ TbAt H' kn D' ∧ Lev hs.length (hfOf hs lot) (n + 1) D' ∧ NoRow hs.length (hfOf hs lot) (n + 1) h, ?_, ?_⟩
      · rintro σ' H' ⟨kn', o4', D', rfl, sm', nk', tb', LV', NR'⟩
        exact ⟨hs.length + 1 - (n + 1), by omega, n + 1, kn', o4', none, D', rfl, sm', nk', tb', LV', NR', by omega, rfl⟩
      -- ready
      refine ⟨kn, .dT kvs, hkn, trivial, fun od => ?_⟩
      have wlL := (wl.same sm).lock (o := .frz od (.dT kvs)) hkn
      have tsL : TS H3 (upd H3 kn (.frz od (.dT kvs))) := ts_lock hkn
      refine ⟨_, rfl, kn, od, rfl, .inr ⟨kvs, upd_same, fun o no => ?_⟩⟩
      have hknL : upd H3 kn (.frz od (.dT kvs)) kn = some (.frz od (.dT kvs)) := upd_same
      have prL := paired_ts (fun _ _ q => EntAt.ts q tsL) pr
      have unl : ∀ H4, Same (upd H3 kn (.frz od (.dT kvs))) H4 → Same H3 (upd H4 kn (.dT kvs)) := fun H4 k => same_lock hkn k
      generalize upd H3 kn (.frz od (.dT kvs)) = HL at wlL tsL hknL prL unl no ⊢
      refine lc_it walk_keysT (fun j H4 => Same HL H4 ∧ ∃ zs, H4 o = some (.lst zs) ∧ Paired (RowAt H4) zs (((Dt.take j).filter fun e => hfOf hs lot h e.1).map (·.2))) ⟨same_upd no, [], upd_same, .nil⟩ (fun j H4 _ ⟨e, _⟩ => e _ _ hknL) ?_ ?_
      · rintro j y H4 H4' hj ⟨sm4, zs, ho, pr4⟩ ⟨rfl, k, v, qa, hkv, rfl, hq⟩
        obtain ⟨e, he1, he2, hq', hv⟩ := key_at prL hkv hq
        have ft := filter_take (fun e : List Int × List Int => hfOf hs lot h e.1) Dt j e he1
        refine ⟨rfl, _, rfl, _, rfl, _, rfl, _, rfl, .ref a, l, .ref qa, h, folk, hs, lot, e.1, _, rfl, wlL.same sm4, .inl ⟨qa, rfl, SqT.of hq'⟩, h0, h1, fun H5 sm5 => ⟨_, rfl, ite2 (fun e2 => ?_) (fun e2 => ?_)⟩⟩
        · obtain ⟨x, hx1, ⟨xr, rfl, hxr⟩⟩ := tb_own prL LV.nd he2
          refine ⟨_, rfl, _, rfl, kn, .ref xr, rfl, ?_, ?_⟩
          · rw [← hx1]
            exact DGet.tl (sm5 _ _ (sm4 _ _ hknL)) (sm5 _ _ hq')
          · have sm45 := sm4.trans sm5
            have ho5 := sm5 _ _ ho
            have tso : TS H5 (upd H5 o (.lst (zs ++ [.ref xr]))) := TS.lst ho5
            refine ⟨zs, ho5, ?_, same_written sm45 no, zs ++ [.ref xr], upd_same, ?_⟩
            · have l1 := pr4.length
              have l2 : ((Dt.take j).filter fun e => hfOf hs lot h e.1).length ≤ Dt.length := Nat.le_trans (List.length_filter_le _ _) (by rw [List.length_take]; omega)
              rw [List.length_map] at l1
              omega
            · rw [ft, if_pos e2, List.map_append]
              exact paired_snoc (paired_ts (fun _ _ q => q.ts ((TS.of sm5).trans tso)) pr4) ⟨xr, rfl, tso _ _ (sm45 _ _ hxr)⟩
        · refine ⟨sm4.trans sm5, zs, sm5 _ _ ho, ?_⟩
          rw [ft, if_neg e2]
          exact paired_ts (fun _ _ q => q.ts (TS.of sm5)) pr4
      · rintro H4 ⟨sm4, zs, ho, pr4⟩
        refine ⟨sm4 _ _ hknL, ?_⟩
        have okn : o ≠ kn := (ne_of_none hknL no).symm
        have smU := unl H4 sm4
        have tsU : TS H4 (upd H4 kn (.dT kvs)) := ts_unlock (sm4 _ _ hknL)
        have hoU : upd H4 kn (.dT kvs) o = some (.lst zs) := by rw [upd_ne okn]; exact ho
        have hknU : upd H4 kn (.dT kvs) kn = some (.dT kvs) := upd_same
        generalize upd H4 kn (.dT kvs) = H5 at smU tsU hoU hknU ⊢
        rw [lp, List.take_length] at pr4
        have pr4 : Paired (RowAt H5) zs (readyOf (hfOf hs lot) Dt h) := paired_ts (fun _ _ q => q.ts tsU) pr4
        have lz := pr4.length
        have sm5 := sm.trans smU
        have prU := paired_ts (fun _ _ q => EntAt.ts q (TS.of smU)) pr
        refine ⟨_, rfl, o, zs, rfl, .inl (SqL.of hoU), _, _, rfl, rfl, _, rfl, ite2 (fun e => ?_) (fun e => ?_)⟩
        · have e := of_decide_eq_true e
          refine ⟨_, rfl, o, zs, _, rfl, SqL.of hoU, pr4, (fun z => ?_), fun x r hx hm hle => ?_⟩
          · rw [z] at lz
            rw [lz] at e
            simp at e
          · obtain ⟨xr, rfl, hxr⟩ := hx
            obtain ⟨f1, f1m, _, f1e⟩ := mem_ready.mp hm
            have lr : r.length ≤ 1000 := by
              rw [← f1e]
              have := (LV.ok f1 f1m).row.length_le
              omega
            refine ⟨_, rfl, sz (by show 1 ≤ 1000000; omega), fun t nt => cat_row (r := r) (k := h) (same_upd nt _ _ hxr) upd_same lr fun z H6 sm6 hz => ?_⟩
            exact q z H6 (sm5.trans ((same_upd nt).trans sm6)) (.inr ⟨_, hz, LV.best m ⟨h0, h1⟩ NR hm hle⟩)
        · have e0 : readyOf (hfOf hs lot) Dt h = [] := by
            have z : zs.length = 0 := by
              rcases Nat.eq_zero_or_pos zs.length with z | z
              · exact z
              · exact absurd (decide_eq_true (show (0 : Int) < (zs.length : Int) by omega)) e
            exact List.length_eq_zero_iff.mp (by omega)
          have NR2 := LV.none m NR e0
          refine ⟨_, rfl, _, rfl, _, rfl, .ref a, l, kn, folk, hs, lot, ok, n, Dt, rfl, wl.same sm5, ⟨kvs, hknU, prU⟩, LV, fun d D' H6 sm6 nd6 tb6 LV6 => ?_⟩
          refine ⟨d, _, D', rfl, sm5.trans sm6, ?_, tb6, LV6, NR2⟩
          cases z : H d with
          | none => rfl
          | some y => rw [sm5 _ _ z] at nd6; cases nd6
    · have e0 : Dt = [] := by
        have z : kvs.length = 0 := by
          rcases Nat.eq_zero_or_pos kvs.length with z | z
          · exact z
          · exact absurd (decide_eq_true (show (0 : Int) < (kvs.length : Int) by omega)) e
        exact List.length_eq_zero_iff.mp (by omega)
      subst e0
      exact q _ H3 sm (.inl ⟨rfl, LV.empty NR⟩)
end
end K23
/-! TooMany, made: its __init__ asks super() first. -/
namespace K23
open PySem PySem.Spec PyProof.Rows L2
section
open PySem.W PySem.Calls PySem.HandSPX
variable {prog : Program} {w : World} {A : Around} {E : Value → Shared → Prop} {R : Result → Shared → Prop}
variable {h : Heap} {g : Array GenState} {d : Drawn} {t : Nat} {os : OsState} {nm q : Str} {C N : Addr} {bs bm : List Value} {hdct : Bool} {sn : List Str} {sub : List Value} {ab : Bool} {col : Option Bool} {dd : Option Addr} {k0 k1 k2 k3 k5 : Option Value}
/-- ValueError.__init__, bound to an exception of ours, called -/
theorem tm_wrapped {u e t0 : Addr} {rest : List Value} {Q : Value → Shared → Prop}
    (hC : h.get? C = some (excClassObj nm q C N bs bm hdct sn sub ab col dd k0 k1 k2 k3 k5 "ValueError.__new__")) (he : h.get? e = some (excO C t0)) (hu : h.get? u = some (kxs_mw "ValueError.__init__" e)) (hz : rest.length ≤ sizeLine)
    (hq : ∀ h' t1, (∀ b o, b ≠ e → h.get? b = some o → h'.get? b = some o) → h'.get? e = some (excO C t1) → Q .none ⟨h', g, d, t, os⟩) :
    wpAny (model prog w) A (call (.ref u) rest) Q E ⟨h, g, d, t, os⟩ := by
  refine wpAny_call (codeAny_of_tree ?_)
  show wpAny _ A.in1 (callAny (.ref u) ⟨rest, []⟩) _ _ _
  unfold callAny
  refine wpAny_bind (wpAny_load hu ?_)
  simp only [kxs_mw, show (Value.type "method-wrapper" == Value.type "method" || Value.type "method-wrapper" == Value.type "builtin_function_or_method" || Value.type "method-wrapper" == Value.type "method-wrapper") = true by decide, if_true]
  refine KFB.if_so (by decide) (wpAny_bind (check_bound_init F.excBase_ValueError.toExcCallFacts hC he rfl (wpAny_bind (wpAny_pure (wpAny_pure ?_)))))
  refine ⟨plainId_quiet F.excBase_ValueError.init.plain _, codeAny_builtin F.excBase_ValueError.initEntry ?_⟩
  rw [Around.under_plainId F.excBase_ValueError.init.plain _]
  wp_walk
  refine hq _ h.objs.size (fun b o hb ho => ?_) ?_
  · rw [Heap.get?_update_other _ _ (fun z => hb z.symm)]
    exact Heap.get?_push_of_some _ ho
  · rw [Heap.get?_update_self _ (Heap.get?_push_of_some _ he) rfl]
    rfl
/-- what __init__ leaves of a fresh exception at x -/
structure TmEnd (h h' : Heap) (x C dx t1 : Addr) (v : Value) : Prop where
  keep : ∀ b o, b ≠ x → h.get? b = some o → h'.get? b = some o
  obj : h'.get? x = some { cls := .ref C, dict := some dx, data := .fields #[.ref t1, .none, .none, .none, .bool false, .none] }
  dbig : h.objs.size ≤ dx
  dne : dx ≠ x
  ns : h'.Ns1 dx (fun y => if y = "most" then some v else none)
theorem ns_but {h h' : Heap} {L x : Addr} {m : Str → Option Value} (n : h.Ns L m) (k : ∀ b o, b ≠ x → h.get? b = some o → h'.get? b = some o) (ne : L ≠ x) : h'.Ns L m := by
  obtain ⟨o, es, ep, ho, r⟩ := n
  exact ⟨o, es, ep, k _ _ ne ho, r⟩
theorem in_but {K : Frag} {h h' : Heap} {x : Addr} (X : K.In h) (hx : K.lookup x = none) (k : ∀ b o, b ≠ x → h.get? b = some o → h'.get? b = some o) : K.In h' := fun a o e =>
  k a o (fun z => by rw [z, hx] at e; cases e) (X a o e)
theorem tm_init {K : Frag} {mg : Str → Option Value} {base : Heap} {C fI cc cda : Addr} {s : Shared} (T : TmAt prog K mg C fI cc cda) (MO : Mod K mg base) (kb : ∀ b o, base.get? b = some o → s.heap.get? b = some o) {x t0 : Addr} {v : Value}
    (hx : s.heap.get? x = some (excO C t0)) (hnx : K.lookup x = none) (hroom : A.depth < recursionLimit) (hq : ∀ h' tk dx t1, TmEnd s.heap h' x C dx t1 v → R (.ok (.ret .none)) { s with heap := h', toks := tk }) :
    codeAny (model prog w) A (.call (.ref fI) ⟨[.ref x, v], []⟩) R s := by
  obtain ⟨oc, od, kV, doc, pm, an, ct, osl, lI, cI⟩ := T.fn
  obtain ⟨nm, q, N, bs, bm, sn, sub, ab, col, dd, k0, k1, k2, k3, k5, hC, hbm⟩ := T.cls
  obtain ⟨ccl, cdd, vs, ccs, file, tf, lcode, hvs, hfile⟩ := T.code
  obtain ⟨cl, cld, csl, lcell⟩ := T.cell
  obtain ⟨mb, hmb, hbb⟩ := MO.blt
  have X : K.In s.heap := MO.kin.keeps kb
  have hcl : clsIn K C = some { name := nm, bases := bs, mro := .ref C :: bm, ns := N, qualname := q, hasDict := true, slotNames := sn, subclasses := sub, abstract := ab, collection := col, hasDel := false } := by unfold clsIn; rw [hC] <;> rfl
  have hxC : x ≠ C := fun z => by rw [z, hC] at hnx; cases hnx
  have c1 : ∀ y ∈ (defScope s_TooMany_init).names, y.2 ≠ NameKind.cell := by decide +kernel
  have c2 : (defScope s_TooMany_init).names.lookup ("self" : Str) = some .local := by decide +kernel
  have c3 : (defScope s_TooMany_init).names.lookup ("most" : Str) = some .local := by decide +kernel
  have c4 : (defScope s_TooMany_init).names.lookup ("super" : Str) = some .globalImplicit := by decide +kernel
  have c5 : (defScope s_TooMany_init).names.lookup ("__class__" : Str) = some .free := by decide +kernel
  refine ks_codeAny_call_defAt (fd := fnX "__init__" "TooMany.__init__" (defArgs s_TooMany_init) (defBody s_TooMany_init) (defScope s_TooMany_init) [("__class__", cc)] .none kV doc pm an (.ref cda) ct) (body := defBody s_TooMany_init) (binds := [("self", .ref x), ("most", v)])
    hroom (X _ _ lI) rfl (MO.nolimit.keeps kb) (codeRec_of X cI) rfl (BindsTo.of_eq (by first | rfl | with_unfolding_all rfl)) c1 (fun y hy => ?c2) (fun h₁ hns k => ?_) rfl rfl rfl
  case c2 =>
    rcases List.mem_cons.mp hy with z | z
    · rw [z]
      exact c2
    · rw [List.mem_singleton.mp z]
      exact c3
  have X₁ : K.In h₁ := X.keeps k
  have hx₁ := k _ _ hx
  have xL : s.heap.objs.size ≠ x := Nat.ne_of_gt (Heap.lt_size hx)
  have nsG₁ : h₁.Ns mainGlobals mg := MO.glob.keeps fun b o e => k _ _ (kb b o e)
  have nsB₁ : h₁.Ns builtinsNs mb := hmb.keeps fun b o e => k _ _ (kb b o e)
  generalize htk : s.toks + ([("self", .ref x), ("most", v)] : List (Str × Value)).length = tk
  obtain ⟨hp, g, d, t, os⟩ := s
  refine ks_wpAt_execs_cons (ks_wpAt_Expr_any (ks_wpAt_MethodCall ?_ (by rfl)) (by rfl) (by rfl))
  refine ks_wpAt_super_base (f := fI) (cc := cda) c4 c5 (by decide) rfl (k _ _ (X _ _ lI)) rfl (by rfl) rfl (X₁ _ _ lcode) rfl hvs hfile T.top ?_
  -- super, __class__, self
  refine ks_loadName_global rfl c4 (loadGlobal_builtin nsG₁ T.gs nsB₁ ((hbb _ (by decide +kernel)).trans PyProof.Rows.Boot.super) ⟨rfl, ?_⟩)
  refine wpAny_loadName_free rfl c5 rfl ⟨_, X₁ _ _ lcell, rfl⟩ ?_
  refine wpAny_loadName_local rfl c2 hns (by first | rfl | with_unfolding_all rfl | kernel_rfl) ?_
  refine ks_wpAny_isType_cls (X₁ _ _ hC) rfl ⟨rfl, ?_⟩
  refine ks_wpAny_call_super (X₁ _ _ hC) rfl hx₁ rfl (fun c e => by cases e) (looks_mroIn X₁ T.sub) (fun h₂ eso k₂ => ?_)
  -- its __init__ is ValueError's
  have X₂ : K.In h₂ := X₁.keeps k₂
  have hx₂ := k₂ _ _ hx₁
  have I₂ : InstAt h₂ x (excO C t0) C none := ⟨hx₂, rfl, rfl, trivial⟩
  have hf := T.sup
  unfold ks_superIn at hf
  rw [hcl] at hf
  refine kxs_getMethod kxs_ValueError eso (looks_opaque X₂ T.any) (l₀ := .ref C :: bm) (fun A Q E s k q => wpAny_bind ((looks_clsIn X₂ hcl) A _ E s k (wpAny_pure q))) rfl X₂ hf (I₂.type.andThen (looks_subIn X₂ T.subVE)) hxC rfl ?_
  have k₃ : ∀ b o, h₂.get? b = some o → (h₂.push (kxs_mw "ValueError.__init__" x)).get? b = some o := fun b o e => Heap.get?_push_of_some _ e
  have hu : (h₂.push (kxs_mw "ValueError.__init__" x)).get? h₂.objs.size = some (kxs_mw "ValueError.__init__" x) := Heap.get?_push_size _ rfl
  generalize h₂.push (kxs_mw "ValueError.__init__" x) = h₃ at k₃ hu ⊢
  refine kxs_callWith (i := "ValueError.__init__") (x := x) (by rfl) (evalArgs_plain ?_)
  refine spliced_cons (wpAny_Constant_str (k := 0) (pos := ⟨0, 0, 0, 0⟩) (spliced_nil ⟨hu, ?_⟩))
  refine tm_wrapped (X₂.keeps k₃ _ _ hC) (k₃ _ _ hx₂) hu (by rw [sizeLine_eq]; show 1 ≤ 16777216; omega) fun h₄ t1 k₄ hx₄ => ?_
  -- self.most = most
  have k04 : ∀ b o, b ≠ x → hp.get? b = some o → h₄.get? b = some o := fun b o ne e => k₄ b o ne (k₃ _ _ (k₂ _ _ (k _ _ e)))
  have X₄ : K.In h₄ := in_but (X₂.keeps k₃) hnx k₄
  have hn₄ := ns_but (hns.keeps fun b o e => k₃ _ _ (k₂ _ _ e)) k₄ xL
  have c6 : ∀ {y : Str} {u : Value} {pos : Pos} {Q : Value → Shared → Prop} {s : Shared} {E : Value → Shared → Prop}, (defScope s_TooMany_init).names.lookup y = some .local → (y == ("__debug__" : Str)) = false → s.heap = h₄ → ([("self", .ref x), ("most", v)] : List (Str × Value)).reverse.lookup y = some u → Q u s →
      wpAny (model prog w) (A.deeper (callEnv (fnX "__init__" "TooMany.__init__" (defArgs s_TooMany_init) (defBody s_TooMany_init) (defScope s_TooMany_init) [("__class__", cc)] .none kV doc pm an (.ref cda) ct) hp.objs.size fI)) (eval (.Name y pos) (callEnv (fnX "__init__" "TooMany.__init__" (defArgs s_TooMany_init) (defBody s_TooMany_init) (defScope s_TooMany_init) [("__class__", cc)] .none kV doc pm an (.ref cda) ct) hp.objs.size fI)) Q E s := fun hl hd hh hu q => by
    subst hh
    exact wpAny_Name (wpAny_loadName_local rfl hl hn₄ hu q) hd
  refine wpAt_of_wpAny (wpAny_execs_cons (plainObj_wpAny_Assign_Attribute (c6 (u := v) c3 (by decide) rfl (by first | rfl | with_unfolding_all rfl | kernel_rfl) (c6 (u := .ref x) c2 (by decide) rfl (by first | rfl | with_unfolding_all rfl | kernel_rfl) ?_)) (by rfl)))
  refine set_plain X₄ (ox := excO C t1) (od := none) ⟨hx₄, rfl, rfl, trivial⟩ T.sa ?_
  refine exc_osa X₄ hx₄ hcl (show refsVE (.ref C :: bm) = true from hbm) rfl T.noN (fun h₅ tk₅ dx k₅ dn dne hx₅ hn₅ => ?_)
  have z : hp.objs.size < h₄.objs.size := hn₄.lt
  exact wpAny_execs_nil (hq h₅ tk₅ dx t1 ⟨fun b o hb e => k₅ b o hb (k04 b o hb e), hx₅, Nat.le_of_lt (Nat.lt_of_lt_of_le z dn), dne, hn₅⟩)
/-- a made TooMany -/
structure TmMade (h h' : Heap) (e C d : Addr) (v : Value) : Prop where
  keep : ∀ b o, h.get? b = some o → h'.get? b = some o
  new : h.objs.size ≤ e
  obj : ∃ oe vs, h'.get? e = some oe ∧ oe.cls = .ref C ∧ oe.dict = some d ∧ oe.data = .fields vs ∧ vs[1]? = some .none
  dbig : h.objs.size ≤ d
  dne : d ≠ e
  ns : h'.Ns1 d (fun y => if y = "most" then some v else none)
theorem tm_made {K : Frag} {mg : Str → Option Value} {base : Heap} {C fI cc cda : Addr} {s : Shared} {v : Value} (T : TmAt prog K mg C fI cc cda) (MO : Mod K mg base) (kb : ∀ b o, base.get? b = some o → s.heap.get? b = some o) (hroom : A.depth + 1 < recursionLimit)
    (hq : ∀ h' tk e d, TmMade s.heap h' e C d v → R (.ok (.ret (.ref e))) { s with heap := h', toks := tk }) : codeAny (model prog w) A (.call (.ref C) ⟨[v], []⟩) R s := by
  obtain ⟨nm, q, N, bs, bm, sn, sub, ab, col, dd, k0, k1, k2, k3, k5, hC, hbm⟩ := T.cls
  have X : K.In s.heap := MO.kin.keeps kb
  obtain ⟨hp, g, dr, tk, os⟩ := s
  have up : ∀ b o, hp.get? b = some o → ((hp.push (kdv_tup [v])).push (excO C hp.objs.size)).get? b = some o := fun b o e => Heap.get?_push_of_some _ (Heap.get?_push_of_some _ e)
  have hnew : ((hp.push (kdv_tup [v])).push (excO C hp.objs.size)).get? (hp.objs.size + 1) = some (excO C hp.objs.size) := by heap_get
  have fresh : K.lookup (hp.objs.size + 1) = none := by
    cases e : K.lookup (hp.objs.size + 1) with
    | none => rfl
    | some o => exact absurd (Nat.lt_of_succ_lt (Heap.lt_size (show hp.get? (hp.objs.size + 1) = some o from X _ _ e))) (Nat.lt_irrefl _)
  refine call_own F.excBase_ValueError (fun Y => refsVE_contains Y bm hbm) (X _ _ hC) (looks_findIn X T.iC) (fun self => bind_fn X self T.tC) (by rw [sizeLine_eq]; show 1 ≤ 16777216; omega) ?_
  refine tm_init (s := ⟨(hp.push (kdv_tup [v])).push (excO C hp.objs.size), g, dr, tk, os⟩) T MO (fun b o e => up b o (kb b o e)) hnew fresh (show A.depth + 1 < recursionLimit from hroom) fun h' tk' dx t1 en => ⟨rfl, hq h' tk' (hp.objs.size + 1) dx ⟨?_, Nat.le_succ _, ⟨_, _, en.obj, rfl, rfl, rfl, rfl⟩, ?_, en.dne, en.ns⟩⟩
  · exact fun b o e => en.keep b o (Nat.ne_of_lt (Nat.lt_succ_of_lt (Heap.lt_size e))) (up b o e)
  · have z := en.dbig
    have l1 : hp.objs.size ≤ ((hp.push (kdv_tup [v])).push (excO C hp.objs.size)).objs.size := by rw [Heap.size_push, Heap.size_push]; omega
    exact Nat.le_trans l1 z
end
theorem relO_most {v : V} {v' : Value} (r : RelV v v') (f : Str) : RelO (List.lookup f [(("most" : Str), v)]) (if f = "most" then some v' else none) := by
  by_cases z : f = "most"
  · subst z
    rw [if_pos rfl, show List.lookup ("most" : Str) [(("most" : Str), v)] = some v by simp [List.lookup]]
    exact r
  · have b : (f == ("most" : Str)) = false := by simpa using z
    rw [if_neg z, show List.lookup f [(("most" : Str), v)] = none by simp [List.lookup, b]]
    trivial
/-- TooMany(e) -/
def tMkTm (C : Addr) (ta : TA) : L2.St → Hp → XK → Prop := fun σ H Q => ta σ H fun vs H1 => ∃ v, vs = [v] ∧ ∀ d, H1 d = none → Q (.ref C) (some d) (upd H1 d (.xd [(("most" : Str), v)]))
theorem pmk_tm {X : Cx} {C fI cc cda : Addr} {a : Expr} {ta : TA} {p pos : Pos} {k : Nat} (T : TmAt X.prog X.K X.mg C fI cc cda) (hr : Room k X.A) (ha : PA X [a] ta) (hg : Gl X "TooMany" := by rfl)
    (he : starEach (a :: []) X.env = (false, eval a X.env) :: starEach [] X.env := by rfl) (hpl : (backTo pos (starEach [] X.env)).any (·.1) = false := by rfl) :
    PMk X (.Call (.Name "TooMany" p) [a] [] pos) (tMkTm C ta) := by
  intro pins s σ H Q I h
  refine wpAny_Call_Name_kw (ld_glob I hg T.gC ?_)
  refine PySem.W.callWith_K (h₀ := X.base) I.ok.mod.kin T.kC (thn (ha.run pos pins s σ H _ I h) fun us s1 ⟨vs, H1, I1, r1, v, ev, q1⟩ => ⟨I1.kIn, ?_⟩) he hpl
  subst ev
  obtain ⟨v', rfl, rv⟩ := vals1 r1
  show wpAny _ _ (call (.ref C) [v']) _ _ _
  have bk := I1.bk
  obtain ⟨hp, g, dr, tk, os⟩ := s1
  refine wpAny_call (tm_made T I1.ok.mod bk (by have := hr.dp; omega) fun h' tk' e d M => ?_)
  show MkP X pins σ Q (.ref e) ⟨h', g, dr, tk', os⟩
  obtain ⟨oe, fv, hoe, hc, hd, hdat, h1⟩ := M.obj
  obtain ⟨G', p1, p2⟩ := restrict h' fun b => decide (b ≠ e)
  have off : ∀ b, b ≠ e → G'.get? b = h'.get? b := fun b hb => p1 b (decide_eq_true hb)
  have ge : G'.get? e = none := p2 e (by simp)
  have old : ∀ b o, hp.get? b = some o → G'.get? b = some o := fun b o y => (off b (Nat.ne_of_lt (Nat.lt_of_lt_of_le (Heap.lt_size y) M.new))).trans (M.keep b o y)
  have ob : ObjOk X.prog X.w (upd H1 d (.xd [(("most" : Str), v)])) G' d (.xd [(("most" : Str), v)]) := ⟨_, M.ns.at (fun o y => (off d M.dne).trans y), fun f => relO_most rv f⟩
  have J : Inv X pins σ (upd H1 d (.xd [(("most" : Str), v)])) ⟨G', g, dr, tk', os⟩ := I1.laid (t' := tk') old M.dbig ob
  refine ⟨e, oe, fv, ⟨G', g, dr, tk', os⟩, _, .ref C, some d, rfl, J, fun b o y => ?_, ge, hoe, ⟨hc, hd⟩, hdat, h1, ?_, rfl, I1.bare, raises_own T.exC T.tyC, q1 d (I1.hok.fresh M.dbig)⟩
  · by_cases hb : b = e
    · have y' : G'.get? b = some o := y
      rw [hb, ge] at y'
      cases y'
    · exact (off b hb).symm.trans y
  · rw [upd_ne (Ne.symm M.dne)]
    exact I1.hok.fresh M.new
end K23
/-! A try whose first clause, that gives the exception a name, takes all that the body lets out; the clauses behind it are never asked. -/
namespace K23
open PySem PySem.Spec PyProof.Rows L2
/-- what that clause wishes of an exception: it is the clause's, and the suite runs with it at slot i -/
def wFirst (K : PySem.W.Frag) (c : Value) (i : Nat) (ts : Addr → Value → Option Addr → L2.TS) (D : L2.Ends) : WX := fun cls d σ H => PySem.W.exmOne K cls c = some true ∧
  ∀ a, H a = none → ts a cls d { nx := fun σ' H' => D.nx (σ'.set i none) H', rt := D.rt, bk := fun σ' H' => D.bk (σ'.set i none) H', ct := fun σ' H' => D.ct (σ'.set i none) H' } (σ.set i (some (.ref a))) H
section
variable {X : Cx} {x n : Str} {c : Value} {i : Nat} {body suite : List Stmt} {b₀ : Stmt} {np pos pos' : Pos} {more : List ExceptHandler} {tb : WX → L2.TS} {ts : Addr → Value → Option Addr → L2.TS}
theorem ps_try_first (hs : X.stack = X.env :: X.outer) (hf : X.env.frame = some X.env.locals) (hN : X.N.Nodup) (hi : X.N[i]? = some n) (hln : X.env.kindOf n = some .local) (hc : Names X x c)
    (hb : ∀ (W : WX) (pn : List (Addr × Obj)) (xe : Value → Shared → Prop), Takes (X.tr pn xe) W → PassesOwn (model X.prog X.w) X.A X.env xe → PSs (X.tr pn xe) body (tb W))
    (hsu : ∀ (a : Addr) (oe : Obj) (cls : Value) (d : Option Addr) (pn : List (Addr × Obj)), Zc cls d oe → (∃ vs, oe.data = .fields vs) → PSs (X.suite a ((a, oe) :: pn)) (b₀ :: suite) (ts a cls d)) :
    PS X (.Try body (.ExceptHandler (some (.Name x np)) (some n) (b₀ :: suite) pos' :: more) [] [] pos) (fun D σ H => tb (wFirst X.K c i ts D) D σ H) := by
  refine ⟨fun pins s σ H D I0 h0 => ?_⟩
  have okX := I0.ok
  have frX : X.A.frames = some (X.env :: X.outer) := by rw [okX.frames, hs]
  refine wpAny_Try_except (wpAny_mono ((hb (wFirst X.K c i ts D) (X.pn ++ pins) (fun e u1 => wpAny (model X.prog X.w) X.A (noteFrame e X.env) (fun _ u2 => wpAny (model X.prog X.w) X.A (setFlight e none) (fun _ u3 =>
    wpAny (model X.prog X.w) X.A (handleBy e X.env (.ExceptHandler (some (.Name x np)) (some n) (b₀ :: suite) pos' :: more)) (SP X pins D) X.xe u3) X.xe u2) X.xe u1) (fun u s' air => ?caught) PassesOwn.looking).run [] s σ H D (I0.toTry _) h0) (fun f u1 hsp => ?ended) (fun e u1 he => he))
  case ended =>
    cases f with
    | next => exact let ⟨σ', H', J, q⟩ := hsp; wpAny_execs_nil ⟨σ', H', J.ofTry okX, q⟩
    | brk => exact let ⟨σ', H', J, q⟩ := hsp; ⟨σ', H', J.ofTry okX, q⟩
    | cont => exact let ⟨σ', H', J, q⟩ := hsp; ⟨σ', H', J.ofTry okX, q⟩
    | ret u => exact let ⟨v, σ', H', J, r, q⟩ := hsp; ⟨v, σ', H', J.ofTry okX, r, q⟩
  case caught =>
    obtain ⟨a, B, sI, pinsT, σ1, H1, cls, d, rfl, JT, nb, up, sky, na, os, ag, isOne, go⟩ := air
    have J : Inv X pins σ1 H1 sI := JT.ofTry okX
    have skyX : Sky B (X.env :: X.outer) a (Zc cls d) X.env.locals s'.heap := by
      rw [← hs]
      exact sky
    show wpAny (model X.prog X.w) X.A (noteFrame (.ref a) X.env) _ _ _
    refine Sky.land Zc.steady frX hf skyX fun hp1 fly1 up1 => ?_
    have J1 : Inv X pins σ1 H1 { s' with heap := hp1 } := J.landed nb fly1.1 (up.trans up1) os ag
    obtain ⟨oe1, vs1, at1, zc1, dt1⟩ := fly1.there
    have noFrame : a ∉ frs (X.env :: X.outer) := fun hm => by
      obtain ⟨_, o', at', nf⟩ := fly1.2.2.1.mem hm
      rw [at1] at at'
      cases at'
      exact nf _ dt1
    have nLoc : a ≠ X.env.locals := fun z => noFrame (List.mem_filterMap.mpr ⟨X.env, List.mem_cons_self, by rw [hf, z]⟩)
    have nFs : a ∉ X.fs := fun hm => let ⟨e, he, q⟩ := List.mem_filterMap.mp hm; noFrame (List.mem_filterMap.mpr ⟨e, List.mem_cons_of_mem _ he, q⟩)
    have S1 := J1.suite at1 dt1 na nLoc nFs
    refine wpAny_handleBy_cons (codeAny_handlers_test ?_) (fun q => by cases q)
    have looks : PySem.W.Looks (model X.prog X.w) hp1 (typeOf (.ref a)) cls := fun A Q E s k q => wpAny_typeOf_ref (k _ _ at1) (by rw [zc1.1]; exact q)
    have asked := PySem.W.exm_one (M := model X.prog X.w) J1.kIn looks isOne
    have named : ∀ {Q : Value → Shared → Prop} {E : Value → Shared → Prop}, Q c { s' with heap := hp1 } → wpAny (model X.prog X.w) (X.A.mark (some (.ref a))) (eval (.Name x np) X.env) Q E { s' with heap := hp1 } := fun {Q E} q => by
      obtain ⟨g1, g2, g3⟩ := hc
      rcases g3 with g3 | ⟨g3, g4, g5⟩
      · exact ld_glob (X := X.suite a ((a, oe1) :: (X.pn ++ pins))) S1 g1 g3 q g2
      · exact ld_blt (X := X.suite a ((a, oe1) :: (X.pn ++ pins))) S1 g1 g3 g4 q g5 g2
    refine named (asked.here (codeAny_handlers_suite_as (HandSPX.lands_againZ fly1 fun hp2 fly2 up2 => ?_)))
    have J2 : Inv X pins σ1 H1 { s' with heap := hp2 } := J.landed nb fly2.1 ((up.trans up1).trans up2) os ag
    obtain ⟨oe2, vs2, at2, zc2, dt2⟩ := fly2.there
    refine store_ok (X := X.suite a ((a, oe2) :: (X.pn ++ pins))) (v := .ref a) (J2.suite at2 dt2 na nLoc nFs) hN hi (.inl hln) rfl (fun u5 S5 => ?_) (.inr hln)
    refine wpAny_mono ((hsu a oe2 cls d (X.pn ++ pins) zc2 ⟨_, dt2⟩).run [] u5 _ H1 _ S5 (go a na)) (fun f u6 hsp => ?_) (fun _ _ z => False.elim z)
    have close : ∀ {σ6 : L2.St} {H6 : Hp} {Q : Shared → Prop}, Inv (X.suite a ((a, oe2) :: (X.pn ++ pins))) [] σ6 H6 u6 → (∀ u7, Inv X pins (σ6.set i none) H6 u7 → Q u7) →
        wpAny (model X.prog X.w) X.A (do bindName X.env n .none; unbindBehindTheSuite X.env n pos') (fun _ u7 => Q u7) X.xe u6 := fun {σ6 H6 Q} S6 hq => gone_ok (S6.unsuite okX) hN hi hln hq
    cases f with
    | next => exact let ⟨_, _, S6, q6⟩ := hsp; close S6 fun u7 J7 => ⟨_, _, J7, q6⟩
    | brk => exact let ⟨_, _, S6, q6⟩ := hsp; close S6 fun u7 J7 => ⟨_, _, J7, q6⟩
    | cont => exact let ⟨_, _, S6, q6⟩ := hsp; close S6 fun u7 J7 => ⟨_, _, J7, q6⟩
    | ret u => exact let ⟨_, _, _, S6, r6, q6⟩ := hsp; close S6 fun u7 J7 => ⟨_, _, _, J7, r6, q6⟩
end
section
variable {X : Cx} {k j : Nat} {x : Str} {sp : Sp} {p pos : Pos} {e : Expr} {es : List Expr} {t : TA} {W : WX}
/-- a call that may let an exception out, where it is taken -/
theorem pe_calS (c : Cal (L2.CX X.prog X.w) X.prog X.w X.K X.mg X.base k x sp) (tk : Takes X W) (hr : Room j X.A) (hk : k ≤ j) (hg : Gl X x) (ha : PA X (e :: es) t)
    (hdb : (x == ("__debug__" : Str)) = false := by decide) (he : starEach (e :: es) X.env = (false, eval e X.env) :: starEach es X.env := by rfl) (hpl : (backTo pos (starEach es X.env)).any (·.1) = false := by rfl) :
    PE X (.Call (.Name x p) (e :: es) [] pos) (tCallS sp (WE W) t) := by
  obtain ⟨f, fd, ps, F, hm, kp, b⟩ := c.ex
  exact pe_callS F (hr.mono hk) hg hm kp b (fun σ => passAt tk σ) ha hdb he hpl
end
end K23
/-! More than twelve houses. -/
namespace K23
open PySem PySem.Spec PyProof.Rows L2
section
variable {P : Program} {w : World} {K : PySem.W.Frag} {mg : Str → Option Value} {base : Heap}
def spManyX (C : Addr) : Sp := fun vs H _ E => ∃ n m : Int, vs = [.int n, .int m] ∧ m < n ∧ ∀ d, H d = none → E (.ref C) (some d) (upd H d (.xd [(("most" : Str), .int m)]))
theorem ok_check_manyX {C fI cc cda : Addr} (TM : TmAt P K mg C fI cc cda) (D : Df K mg "check_many" s_check_many ["number", "most"]) : Cal (L2.CX P w) P w K mg base 2 "check_many" (spManyX C) := by
  refine D.calX sc_check_many (fun vs H Q E h => ?_) (fun f cdv A outer s H vs Q E hr h => ?_)
  · obtain ⟨n, m, rfl, _⟩ := h
    rfl
  · obtain ⟨n, m, rfl, lt, q⟩ := h
    refine ⟨_, pss_one (ps_if (pt_cmpR op_gt (pv 0) (pv 1) (nomark _)) (pss_one (ps_raise rfl (takes_of rfl rfl rfl rfl) (pmk_tm TM hr (pa_cons (pv 1) pa_nil)))) pss_nil), ?_⟩
    refine ⟨_, rfl, _, rfl, _, _, rfl, rfl, _, rfl, ?_⟩
    rw [decide_eq_true lt]
    exact iteT ⟨_, rfl, .int m, rfl, fun d nd => q d nd⟩
def spShortX (K : PySem.W.Frag) (C : Addr) : Sp := fun vs H _ E => ∃ (x l : V) (h folk : Int) (hs : List (List Hd)) (lot : List Int) (ok : Addr → Prop), vs = [x, l, .int h] ∧ WebAt K ok H x folk hs ∧ RowAt H l lot ∧ LotOk folk lot ∧ folk ≤ 1000 ∧ 0 ≤ h ∧ h < hs.length ∧ 12 < hs.length ∧
  ∀ (d : Addr) (H' : Hp), H' d = some (.xd [(("most" : Str), .int 12)]) → E (.ref C) (some d) H'
theorem ok_shortest_rowX {C : Addr} (T : Txt K mg) (c_check_lot_and_house : Cal CX0 P w K mg base 5 "check_lot_and_house" (spCheckLH K)) (c_check_many : Cal (L2.CX P w) P w K mg base 2 "check_many" (spManyX C)) (D : Df K mg "shortest_row" s_shortest_row ["web", "lot", "house"]) :
    Cal (L2.CX P w) P w K mg base 6 "shortest_row" (spShortX K C) := by
  refine D.calX sc_shortest_row (fun vs H Q E h => ?_) (fun f cdv A outer s H vs Q E hr h => ?_)
  · obtain ⟨x, l, h, folk, hs, lot, ok, rfl, _⟩ := h
    rfl
  · obtain ⟨x, l, h, folk, hs, lot, ok, rfl, web, hl, lok, f1, h0, h1, big, q⟩ := h
    refine ⟨_, pss_cons (ps_expr (pe_cal c_check_lot_and_house hr (by decide) (by rfl) (pa_cons (pv 0) (pa_cons (pv 1) (pa_cons (pv 2) pa_nil)))))
      (pss_cons (ps_expr (pe_calX (E := E) c_check_many (passes_call (takes_of rfl rfl rfl rfl) (fun _ _ _ _ h => h)) hr (by decide) (by rfl) (pa_cons (pe_callB call_len_seq (by rfl) T.len (by decide +kernel) (pa_cons (pe_fld (pv 0) rfl) pa_nil)) (pa_cons (pe_gc rfl T.v_MOST_HOUSES_carrying) pa_nil)))) pss_never), ?_⟩
    refine ⟨_, rfl, _, rfl, _, rfl, x, l, h, folk, hs, lot, ok, rfl, web, hl, lok, f1, h0, h1, fun H1 sm1 => ?_⟩
    obtain ⟨a, C', dx, fs, wa, ws, rfl, ha, c, g2, hwa, lw⟩ := (web.keep (Keeps.same sm1)).len
    exact ⟨_, rfl, a, C', dx, fs, _, rfl, ha, c.cl, c.n2, g2, wa, ws, rfl, .inr (SqT.of hwa), _, 12, rfl, by omega, fun d nd => q d _ upd_same⟩
/-- the same, for a web that is being made -/
theorem make_web1 {C x dx : Addr} {H1 : Hp} {folk : Int} {y : V} {hs : List (List Hd)} {Q : VK} {E : XK} (nx : H1 x = none) (ndx : H1 dx = none) (ok : Addr → Prop) (hy : WsAt H1 y hs) (wok : WebOk folk hs) (okn : ∀ b, H1 b = none → ok b) (q : ∀ H2, Same H1 H2 → WebAt K ok H2 (.ref x) folk hs → Q .non H2) :
    spInit K C [.ref x, .int folk, y] (upd (upd H1 dx (.own x)) x (.ins C dx [])) Q E := by
  refine ⟨x, dx, folk, y, hs, ok, rfl, upd_same, hy.ts fun b xs e => ?_, wok, okn _ nx, fun b e => okn b (made_none nx ndx e), fun H2 web fr => q H2 (made_same nx ndx fr) web⟩
  rw [upd_ne (ne_of_none e nx), upd_ne (ne_of_none e ndx)]
  exact e
abbrev n_law_too_many : List Str := ["_law_parts_here", "_law_web", "_law_lot_here", "_law_word", "e"]
theorem sc_law_too_many : FnScope n_law_too_many ["_law_parts_here", "_law_web", "_law_lot_here"] (defScope s_law_too_many) := ⟨rfl, rfl, rfl, by decide +kernel, rfl, by decide +kernel, by decide +kernel⟩
theorem op_repTK {X : Cx} (K : PySem.W.Frag) (hK : X.K = K := by rfl) : OpR X (binaryOp .Mult) (rRepT K) := by subst hK; exact op_repT
def spTooMany (K : PySem.W.Frag) : Sp := fun vs H Q _ => ∃ (x y l : V) (folk : Int) (hs : List (List Hd)) (lot : List Int) (ok : Addr → Prop), vs = [x, y, l] ∧ PartsAt H x folk hs ∧ WL K ok H y l folk hs lot ∧ 1 ≤ hs.length ∧ ∀ H', Q (.bl true) H'
theorem word12 : (("more than " : Str) ++ toString (12 : Int) : Str) = ("more than 12" : Str) := by decide +kernel
theorem ok_law_too_many {C W_ fI cc cda : Addr} (T : Txt K mg) (TM : TmAt P K mg C fI cc cda) (c_Web : C8.Mak P w K mg base 5 "Web" W_ (spInit K W_) []) (c_beside : Cal CX0 P w K mg base 5 "beside" (spBeside K)) (c_shortest_row : Cal (L2.CX P w) P w K mg base 6 "shortest_row" (spShortX K C))
    (D : Df K mg "_law_too_many" s_law_too_many ["_law_parts_here", "_law_web", "_law_lot_here"]) : Cal CX0 P w K mg base 8 "_law_too_many" (spTooMany K) := by
  refine D.cal sc_law_too_many (fun vs H Q E h => ?_) (fun f cdv A outer s H vs Q E hr h => ?_)
  · obtain ⟨x, y, l, folk, hs, lot, ok, rfl, _⟩ := h
    rfl
  · obtain ⟨x, y, l, folk, hs, lot, ok, rfl, parts, wl, n1, q⟩ := h
    have nd := sc_law_too_many.nd
    refine ⟨_, pss_cons (ps_set (i := 3) nd rfl (Or.inl rfl) pe_str)
      (pss_cons (ps_try_first (i := 4) rfl rfl nd rfl rfl ⟨rfl, by decide, Or.inl TM.gC⟩
        (fun W pn xe tk _ => pss_one (ps_expr (pe_calS c_shortest_row tk hr (by decide) (by rfl) (pa_cons (pe_cal c_beside hr (by decide) (by rfl) (pa_cons (pv 1) (pa_cons (C8.pe_mk c_Web hr (by decide) (by rfl) (pa_cons (pe_ix (ix_tupK K) (pv 0) pe_int (fun _ _ => rfl)) (pa_cons (pe_op (op_repTK K) (pe_tup (pa_cons (pe_tup (pa_cons (pe_tup (pa_cons pe_str (pa_cons pe_int pa_nil))) pa_nil)) pa_nil)) pe_int) pa_nil))) pa_nil))) (pa_cons (pv 2) (pa_cons pe_int pa_nil))))))
        (fun a oe cls d pn hz hf => pss_one (ps_set (i := 3) nd rfl (Or.inl rfl) (pe_op op_add_str pe_str (pe_callTy call_str_int (by rfl) T.str (by decide +kernel) (pa_cons (pe_xf ⟨TM.ga, TM.gg, TM.exC, TM.hdC⟩ TM.noN hz hf (pv 4)) pa_nil))))))
      (pss_one (ps_ret (pe_cmpR op_eq (pv 3) pe_str (nomark _))))), ?_⟩
    obtain ⟨xa, wv, rfl, hx, wsat⟩ := parts
    have wok := wl.wok
    have n12 := wok.n1
    have f0 := wok.f0
    have f6 := wok.f1
    refine ⟨_, rfl, _, rfl, xa, _, 0, .int folk, rfl, rfl, SqT.of hx, atI_nat (j := 0) rfl, ?_⟩
    refine ⟨sz (by show 2 ≤ 1000000; omega), fun t1 nt1 => ⟨sz (by show 1 ≤ 1000000; omega), fun t2 nt2 => ⟨sz (by show 1 ≤ 1000000; omega), fun t3 nt3 => ?_⟩⟩⟩
    have sm1 : Same H (upd (upd (upd H t1 (.tup [.str "f", .int 0])) t2 (.tup [.ref t1])) t3 (.tup [.ref t2])) := ((same_upd nt1).trans (same_upd nt2)).trans (same_upd nt3)
    have g1 : upd (upd (upd H t1 (.tup [.str "f", .int 0])) t2 (.tup [.ref t1])) t3 (.tup [.ref t2]) t1 = some (.tup [.str "f", .int 0]) := same_upd nt3 _ _ (same_upd nt2 _ _ upd_same)
    have g2 : upd (upd (upd H t1 (.tup [.str "f", .int 0])) t2 (.tup [.ref t1])) t3 (.tup [.ref t2]) t2 = some (.tup [.ref t1]) := same_upd nt3 _ _ upd_same
    have g3 : upd (upd (upd H t1 (.tup [.str "f", .int 0])) t2 (.tup [.ref t1])) t3 (.tup [.ref t2]) t3 = some (.tup [.ref t2]) := upd_same
    generalize upd (upd (upd H t1 (.tup [.str "f", .int 0])) t2 (.tup [.ref t1])) t3 (.tup [.ref t2]) = H1 at sm1 g1 g2 g3 ⊢
    refine ⟨t3, 12, [.ref t2], rfl, rfl, SqT.of g3, (fun z => nomatch z), by omega, by omega, (by show 1 ≤ 1000; omega), fun p np => ?_⟩
    have er : (List.replicate (12 : Int).toNat [V.ref t2]).flatten = List.replicate 12 (V.ref t2) := by
      show (List.replicate 12 [V.ref t2]).flatten = _
      simp
    rw [er]
    have smp : Same H1 (upd H1 p (.tup (List.replicate 12 (V.ref t2)))) := same_upd np
    have hat : HsAt (upd H1 p (.tup (List.replicate 12 (V.ref t2)))) (.ref t2) [.f 0] := ⟨t2, _, rfl, smp _ _ g2, .cons ⟨t1, rfl, smp _ _ g1⟩ .nil⟩
    have wsat2 : WsAt (upd H1 p (.tup (List.replicate 12 (V.ref t2)))) (.ref p) (List.replicate 12 [.f 0]) := ⟨p, _, rfl, upd_same, paired_repl hat 12⟩
    have wok2 : WebOk folk (List.replicate 12 [Hd.f 0]) := ⟨f0, f6, by rw [List.length_replicate]; omega, fun ds hds => by
      rw [List.eq_of_mem_replicate hds]
      exact ⟨rfl, by show 1 ≤ 15; omega, fun d hd => by rw [List.mem_singleton.mp hd]; exact ⟨by omega, by omega⟩, List.pairwise_singleton _ _⟩⟩
    refine fun x2 dx nx ndx _ => make_web1 nx ndx (fun _ => True) wsat2 wok2 (fun _ _ => trivial) fun H2 sm2 web2 => ⟨rfl, ?_⟩
    have sm02 : Same H H2 := (sm1.trans smp).trans sm2
    refine ⟨y, .ref x2, folk, hs, _, fun _ => True, ok, fun _ => True, rfl, wl.web.keep (Keeps.same sm02), web2, wok, wok2, fun _ _ => trivial, fun z hs3 H3 l3 web3 sm3 => ?_⟩
    rw [List.length_replicate] at l3
    have sm03 := sm02.trans sm3
    refine ⟨_, rfl, z, l, 0, folk, hs3, lot, fun _ => True, rfl, web3, wl.hl.ts (TS.of sm03), wl.lok, by omega, by omega, by omega, by omega, fun d H4 hd => ⟨TM.te, fun a na => ?_⟩⟩
    refine ⟨_, rfl, rfl, rfl, d, _, .int 12, rfl, hd, rfl, 12, rfl, by decide +kernel, _, _, rfl, rfl, sz (by decide +kernel), ?_⟩
    rw [word12]
    refine ⟨_, rfl, rfl, ?_⟩
    rw [decide_eq_true rfl]
    exact q H4
end
end K23
/-! Great webs. -/
namespace K23
open PySem PySem.Spec PyProof.Rows L2
theorem Best.not_never {N : Nat} {hf : Int → List Int → Bool} {h : Int} {r : List Int} (b : Best N hf h r) : ¬ Never N hf h := fun n => n r b.row b.fin
section
variable {P : Program} {w : World} {K : PySem.W.Frag} {mg : Str → Option Value} {base : Heap}
abbrev n_law_great_right : List Str := ["_law_parts_here", "_law_web", "_law_lot_here", "_law_house", "_law_way", "_law_depth_here"]
theorem sc_law_great_right : FnScope n_law_great_right ["_law_parts_here", "_law_web", "_law_lot_here", "_law_house"] (defScope s_law_great_right) := ⟨rfl, rfl, rfl, by decide +kernel, rfl, by decide +kernel, by decide +kernel⟩
def spGreat (K : PySem.W.Frag) : Sp := fun vs H Q _ => ∃ (x y l : V) (h folk : Int) (hs : List (List Hd)) (lot : List Int) (ok : Addr → Prop), vs = [x, y, l, .int h] ∧ PL H x l folk hs lot ∧ WL K ok H y l folk hs lot ∧ 0 ≤ h ∧ h < hs.length ∧ ∀ H', Same H H' → Q (.bl true) H'
theorem ok_law_great_right (T : Txt K mg) (c_shortest_row : Cal CX0 P w K mg base 6 "shortest_row" (spShort K)) (c_law_depth : Cal CX0 P w K mg base 3 "_law_depth" spDepth) (c_law_row_fault : Cal CX0 P w K mg base 2 "_law_row_fault" spFault)
    (c_law_carried : Cal CX0 P w K mg base 3 "_law_carried" spCarried) (c_law_same : Cal CX0 P w K mg base 3 "_law_same" spSame) (c_law_least_by_lots : Cal CX0 P w K mg base 2 "_law_least_by_lots" spLots) (c_row : Cal CX0 P w K mg base 6 "row" (spRow K))
    (D : Df K mg "_law_great_right" s_law_great_right ["_law_parts_here", "_law_web", "_law_lot_here", "_law_house"]) : Cal CX0 P w K mg base 7 "_law_great_right" (spGreat K) := by
  refine D.cal sc_law_great_right (fun vs H Q E h => ?_) (fun f cdv A outer s H vs Q E hr h => ?_)
  · obtain ⟨x, y, l, h, folk, hs, lot, ok, rfl, _⟩ := h
    rfl
  · obtain ⟨x, y, l, h, folk, hs, lot, ok, rfl, pl, wl, h0, h1, q⟩ := h
    have nd := sc_law_great_right.nd
    refine ⟨_, pss_cons (ps_set (i := 4) nd rfl (Or.inl rfl) (pe_cal c_shortest_row hr (by decide) (by rfl) (pa_cons (pv 1) (pa_cons (pv 2) (pa_cons (pv 3) pa_nil)))))
      (pss_cons (ps_set (i := 5) nd rfl (Or.inl rfl) (pe_cal c_law_depth hr (by decide) (by rfl) (pa_cons (pv 0) (pa_cons (pv 2) (pa_cons (pv 3) pa_nil)))))
      (pss_cons (ps_if (pt_cmpR op_lt (pv 5) pe_int (nomark _)) (pss_one (ps_ret (pe_cmpR op_isN (pv 4) pe_non (nomark _)))) pss_nil)
      (pss_cons (ps_if (PW.pt (pw_or (pt_cmpR op_isN (pv 4) pe_non (nomark _)) (pw_or1 (pt_cmpR op_notN (pe_cal c_law_row_fault hr (by decide) (by rfl) (pa_cons (pv 0) (pa_cons (pv 2) (pa_cons (pv 3) (pa_cons (pv 4) pa_nil))))) pe_non (nomark _))))) (pss_one (ps_ret pe_bl)) pss_nil)
      (C8.pss_cut (ps_if (PW.pt (pw_and (pt_cmpR op_lt (pe_callB call_len_seq (by rfl) T.len (by decide +kernel) (pa_cons (pe_cal c_law_carried hr (by decide) (by rfl) (pa_cons (pv 0) (pa_cons (pv 2) pa_nil))) pa_nil)) pe_int (nomark _)) (pw_and1 (pt_not (pt_val (pe_cal c_law_same hr (by decide) (by rfl) (pa_cons (pv 4) (pa_cons (pe_cal c_law_least_by_lots hr (by decide) (by rfl) (pa_cons (pv 0) (pa_cons (pv 2) (pa_cons (pv 3) pa_nil)))) pa_nil)))))))) (pss_one (ps_ret pe_bl)) pss_nil)
      (pss_one (ps_ret (pe_chain op_lt op_le (pv 5) (pe_callB call_len_seq (by rfl) T.len (by decide +kernel) (pa_cons (pv 4) pa_nil)) (pe_callB call_len_seq (by rfl) T.len (by decide +kernel) (pa_cons (pe_cal c_row hr (by decide) (by rfl) (pa_cons (pv 1) (pa_cons (pv 2) (pa_cons (pv 3) pa_nil)))) pa_nil))))))))), ?_⟩
    have few := pl.few
    refine ⟨_, rfl, _, rfl, _, rfl, y, l, h, folk, hs, lot, ok, rfl, wl, h0, h1, fun way H1 sm1 ans => ?_⟩
    refine ⟨_, rfl, _, rfl, _, rfl, x, l, folk, hs, lot, h, rfl, pl.ts (TS.of sm1), fun d H2 sm2 dep => ?_⟩
    have sm02 := sm1.trans sm2
    rcases dep with ⟨rfl, nv⟩ | ⟨k, rfl, dk, nn⟩
    · -- nobody carries it
      rcases ans with ⟨rfl, _⟩ | ⟨r, _, b⟩
      · refine ⟨_, rfl, _, 0, rfl, rfl, _, rfl, ?_⟩
        rw [decide_eq_true (by decide)]
        exact iteT ⟨_, rfl, rfl, q H2 sm02⟩
      · exact absurd nv b.not_never
    · rcases ans with ⟨_, nv⟩ | ⟨r, hr', b⟩
      · exact absurd nv nn
      · have hr2 := hr'.ts (TS.of sm2)
        obtain ⟨wa, rfl, hwa⟩ := hr2
        have lr : r.length ≤ hs.length := b.row.length_le
        refine ⟨_, rfl, _, 0, rfl, rfl, _, rfl, ?_⟩
        rw [decide_eq_false (by omega)]
        refine iteF ?_
        -- it has no fault
        refine ⟨_, rfl, rfl, _, rfl, iteF ?_⟩
        refine ⟨_, rfl, _, rfl, _, rfl, _, rfl, x, l, .ref wa, folk, hs, lot, h, r, rfl, pl.ts (TS.of sm02), ⟨wa, rfl, hwa⟩, b.row, b.fin, fun H3 sm3 => ⟨rfl, _, rfl, ?_⟩⟩
        refine iteF ?_
        have sm03 := sm02.trans sm3
        refine ⟨fun σ' H' => σ' = [some x, some y, some l, some (.int h), some (.ref wa), some (.int (k : Nat))] ∧ Same H H' ∧ H' wa = some (.tup (r.map V.int)), ?_, ?_⟩
        · refine ⟨_, rfl, _, rfl, x, l, folk, hs, lot, rfl, pl.ts (TS.of sm03), fun ca cs H4 sm4 hca => ?_⟩
          have sm04 := sm03.trans sm4
          refine ⟨ca, cs, rfl, .inl (SqL.of hca), _, 10, rfl, rfl, _, rfl, ite2 (fun e => ?_) (fun e => ?_)⟩
          · refine ⟨_, rfl, _, rfl, _, rfl, _, rfl, x, l, folk, hs, lot, h, rfl, pl.ts (TS.of sm04), h0, h1, fun z H5 sm5 ans2 => ?_⟩
            have sm05 := sm04.trans sm5
            rcases ans2 with ⟨_, nv⟩ | ⟨r2, hr2, b2⟩
            · exact absurd nv nn
            · have er : r2 = r := b2.unique b
              subst er
              refine ⟨.ref wa, z, rfl, .inr ⟨r2, by omega, ⟨wa, rfl, sm5 _ _ (sm4 _ _ (sm3 _ _ hwa))⟩, hr2⟩, true, rfl, iteF ⟨rfl, sm05, sm5 _ _ (sm4 _ _ (sm3 _ _ hwa))⟩⟩
          · exact iteF ⟨rfl, sm04, sm4 _ _ (sm3 _ _ hwa)⟩
        rintro σ' H4 ⟨rfl, sm04, hwa4⟩
        have hk := dk r b.row b.fin
        refine ⟨_, rfl, _, rfl, wa, _, rfl, .inr (SqT.of hwa4), _, _, rfl, rfl, _, rfl, ?_⟩
        rw [decide_eq_true (by rw [List.length_map]; omega)]
        refine iteT ⟨_, rfl, _, rfl, _, rfl, y, l, h, folk, hs, lot, ok, rfl, wl.same sm04, h0, h1, fun z H5 sm5 ans3 => ?_⟩
        rcases ans3 with ⟨_, nv⟩ | ⟨r3, ⟨ta, rfl, hta⟩, row3, end3⟩
        · exact absurd nv nn
        · refine ⟨ta, _, rfl, .inr (SqT.of hta), _, _, rfl, rfl, ?_⟩
          have le : r.length ≤ r3.length := by
            rcases b.least r3 row3 end3 with z | ⟨z, _⟩ <;> omega
          have e : decide (((r.map V.int).length : Int) ≤ ((r3.map V.int).length : Int)) = true := decide_eq_true (by rw [List.length_map, List.length_map]; omega)
          have q' := q H5 (sm04.trans sm5)
          rw [← e] at q'
          exact q'
end
end K23
/-! The plain law of chains. -/
namespace K23
structure Chain (N : Nat) (hf : Int → List Int → Bool) (os : List Int) : Prop where
  nd : os.Nodup
  bnd : ∀ k ∈ os, 0 ≤ k ∧ k < (N : Int)
  first : ∀ k, os[0]? = some k → ∀ S, hf k S = true
  next : ∀ (j : Nat) (k k' : Int), os[j]? = some k → os[j + 1]? = some k' → ∀ S, hf k' S = true ↔ k ∈ S
section
variable {N : Nat} {hf : Int → List Int → Bool}
theorem take_snoc {os : List Int} {j : Nat} {k : Int} (h : os[j]? = some k) : os.take (j + 1) = os.take j ++ [k] := by
  rw [List.take_add_one, h]
  rfl
theorem not_mem_take {os : List Int} (nd : os.Nodup) {j : Nat} {k : Int} (h : os[j]? = some k) : k ∉ os.take j := fun z => by
  obtain ⟨i, hi⟩ := List.mem_iff_getElem?.mp z
  have hl := (List.getElem?_eq_some_iff.mp hi).1
  rw [List.length_take] at hl
  rw [List.getElem?_take_of_lt (by omega)] at hi
  have hjl := (List.getElem?_eq_some_iff.mp h).1
  have e : i = j := (List.getElem?_inj (by omega) nd).mp (hi.trans h.symm)
  omega
theorem Chain.row {os : List Int} (C : Chain N hf os) : ∀ {j : Nat}, j ≤ os.length → IsRow N hf (os.take j)
  | 0, _ => by rw [List.take_zero]; exact .nil
  | j + 1, h => by
    have hj : os[j]? = some os[j] := List.getElem?_eq_getElem (by omega)
    rw [take_snoc hj]
    obtain ⟨b0, b1⟩ := C.bnd _ (List.mem_of_getElem? hj)
    refine .snoc (C.row (by omega)) b0 b1 (not_mem_take C.nd hj) ?_
    cases j with
    | zero => exact C.first _ hj _
    | succ j =>
      have hj' : os[j]? = some os[j] := List.getElem?_eq_getElem (by omega)
      rw [C.next j _ _ hj' hj, take_snoc hj']
      exact List.mem_append_right _ List.mem_cons_self
theorem Chain.only {os : List Int} (C : Chain N hf os) : ∀ (j : Nat) (k : Int), os[j]? = some k → ∀ r, IsRow N hf r → Ends r k → j + 1 ≤ r.length ∧ (r.length = j + 1 → r = os.take (j + 1))
  | 0, k, hk, r, _, ⟨r', e⟩ => by
    subst e
    refine ⟨by rw [List.length_append, List.length_singleton]; omega, fun hl => ?_⟩
    rw [List.length_append, List.length_singleton] at hl
    have e : r' = [] := List.length_eq_zero_iff.mp (by omega)
    rw [e, take_snoc hk]
    rfl
  | j + 1, k, hk, r, hr, ⟨r', e⟩ => by
    subst e
    obtain ⟨a1, _, _, _, a5⟩ := hr.inv
    have hjl := (List.getElem?_eq_some_iff.mp hk).1
    have hj : os[j]? = some os[j] := List.getElem?_eq_getElem (by omega)
    have hm := (C.next j _ _ hj hk r').mp a5
    obtain ⟨u, v, e⟩ := List.append_of_mem hm
    have hu : IsRow N hf (u ++ [os[j]]) := by
      have : r' = (u ++ [os[j]]) ++ v := by rw [e]; simp
      rw [this] at a1
      exact IsRow.pre rfl a1
    obtain ⟨h1, h2⟩ := C.only j _ hj _ hu ⟨_, rfl⟩
    rw [List.length_append, List.length_singleton] at h1 h2
    rw [List.length_append, List.length_singleton, e, List.length_append, List.length_cons]
    refine ⟨by omega, fun hl => ?_⟩
    have ev : v = [] := List.length_eq_zero_iff.mp (by omega)
    subst ev
    rw [take_snoc hk, ← h2 (by omega)]
theorem Chain.best {os : List Int} (C : Chain N hf os) {j : Nat} {k : Int} (h : os[j]? = some k) : Best N hf k (os.take (j + 1)) := by
  have hjl := (List.getElem?_eq_some_iff.mp h).1
  have lt : (os.take (j + 1)).length = j + 1 := by rw [List.length_take]; omega
  refine ⟨C.row (by omega), ⟨_, take_snoc h⟩, fun s hs he => ?_⟩
  obtain ⟨h1, h2⟩ := C.only j k h s hs he
  rw [lt]
  by_cases e : s.length = j + 1
  · right
    refine ⟨e.symm, ?_⟩
    rw [h2 e]
    exact Le.refl _
  · exact .inl (by omega)
end
end K23
/-! Chains. -/
namespace K23
open PySem PySem.Spec PyProof.Rows L2
/-- the shares of the j-th house of a chain -/
def Lk (os : List Int) : Nat → List Hd → Prop
  | 0, ds => ds = [.f 0]
  | j + 1, ds => ∃ (k : Int) (s : Hd), os[j]? = some k ∧ ds.Perm [.h k, .h k, s] ∧ (s = .f 0 ∨ s = .f 1 ∨ ∃ m ∈ os, s = .h m) ∧ ds.Pairwise (fun a b => Hd.le a b = true)
theorem Lk.ok {n : Nat} {os : List Int} (hb : ∀ k ∈ os, 0 ≤ k ∧ k < (n : Int)) : ∀ {j : Nat} {ds : List Hd}, Lk os j ds → HouseOk 2 n ds
  | 0, ds, h => by
    rw [show ds = [.f 0] from h]
    exact ⟨rfl, by show 1 ≤ 15; omega, fun d hd => by rw [List.mem_singleton.mp hd]; exact ⟨by omega, by omega⟩, List.pairwise_singleton _ _⟩
  | j + 1, ds, ⟨k, s, hk, pm, hs, asc⟩ => by
    have l3 : ds.length = 3 := pm.length_eq
    obtain ⟨k0, k1⟩ := hb k (List.mem_of_getElem? hk)
    refine ⟨by rw [l3], by omega, fun d hd => ?_, asc⟩
    have := pm.mem_iff.mp hd
    simp only [List.mem_cons, List.not_mem_nil, or_false] at this
    rcases this with rfl | rfl | rfl
    · exact ⟨k0, k1⟩
    · exact ⟨k0, k1⟩
    · rcases hs with rfl | rfl | ⟨m, hm, rfl⟩
      · exact ⟨by omega, by omega⟩
      · exact ⟨by omega, by omega⟩
      · exact hb m hm
theorem half_perm {lot S : List Int} {a b : List Hd} (p : a.Perm b) : halfD a lot S = halfD b lot S := by
  unfold halfD
  rw [p.length_eq, (p.filter _).length_eq]
theorem half_first (S : List Int) : halfD [.f 0] [0] S = true := by
  have e : Hd.ours [0] S (.f 0) = true := rfl
  unfold halfD
  rw [List.filter_cons_of_pos e]
  rfl
theorem half_next (k : Int) (s : Hd) (S : List Int) : halfD [.h k, .h k, s] [0] S = true ↔ k ∈ S := by
  unfold halfD
  rw [decide_eq_true_iff]
  have e : Hd.ours [0] S (.h k) = decide (k ∈ S) := rfl
  by_cases h : k ∈ S
  · have e' : Hd.ours [0] S (.h k) = true := by rw [e]; exact decide_eq_true h
    rw [List.filter_cons_of_pos e', List.filter_cons_of_pos e']
    refine ⟨fun _ => h, fun _ => ?_⟩
    show 3 < 2 * ((List.filter (Hd.ours [0] S) [s]).length + 1 + 1)
    omega
  · have e' : ¬ Hd.ours [0] S (.h k) = true := by rw [e, decide_eq_false h]; exact Bool.false_ne_true
    rw [List.filter_cons_of_neg e', List.filter_cons_of_neg e']
    refine ⟨fun z => ?_, fun z => absurd z h⟩
    have l1 : (List.filter (Hd.ours [0] S) [s]).length ≤ 1 := List.length_filter_le _ _
    exact absurd (show 3 < 2 * (List.filter (Hd.ours [0] S) [s]).length from z) (by omega)
/-- the houses of a chain -/
structure Links (os : List Int) (hs : List (List Hd)) : Prop where
  perm : os.Perm (upto hs.length)
  lk : ∀ (j : Nat) (k : Int), os[j]? = some k → ∃ ds, hs[k.toNat]? = some ds ∧ Lk os j ds
theorem Links.bnd {os : List Int} {hs : List (List Hd)} (L : Links os hs) : ∀ k ∈ os, 0 ≤ k ∧ k < (hs.length : Int) := fun k hk => mem_upto.mp (L.perm.mem_iff.mp hk)
theorem Links.hf {os : List Int} {hs : List (List Hd)} {k : Int} {ds : List Hd} {lot S : List Int} (h : hs[k.toNat]? = some ds) : hfOf hs lot k S = halfD ds lot S := by
  unfold hfOf
  rw [List.getD_eq_getElem?_getD, h]
  rfl
theorem Links.chain {os : List Int} {hs : List (List Hd)} (L : Links os hs) : Chain hs.length (hfOf hs [0]) os := by
  refine ⟨L.perm.nodup_iff.mpr (nodup_upto _), L.bnd, fun k hk S => ?_, fun j k k' hk hk' S => ?_⟩
  · obtain ⟨ds, h1, h2⟩ := L.lk 0 k hk
    rw [Links.hf (os := os) h1, show ds = [.f 0] from h2]
    exact half_first S
  · obtain ⟨ds, h1, k2, s, h2, pm, _⟩ := L.lk (j + 1) k' hk'
    rw [hk] at h2
    cases h2
    rw [Links.hf (os := os) h1, half_perm pm]
    exact half_next k s S
theorem Links.wok {os : List Int} {hs : List (List Hd)} (L : Links os hs) (h12 : hs.length ≤ 12) : WebOk 2 hs := by
  refine ⟨by omega, by omega, h12, fun ds hds => ?_⟩
  obtain ⟨t, ht⟩ := List.mem_iff_getElem?.mp hds
  have htl := (List.getElem?_eq_some_iff.mp ht).1
  have hm : (t : Int) ∈ os := L.perm.mem_iff.mpr (mem_upto.mpr ⟨by omega, by omega⟩)
  obtain ⟨j, hj⟩ := List.mem_iff_getElem?.mp hm
  obtain ⟨ds', h1, h2⟩ := L.lk j _ hj
  rw [Int.toNat_natCast, ht] at h1
  rw [Option.some.inj h1]
  exact h2.ok L.bnd
section
variable {P : Program} {w : World} {K : PySem.W.Frag} {mg : Str → Option Value} {base : Heap}
abbrev n_law_chain_right : List Str := ["_law_pool_here", "_law_many", "_law_order", "_law_houses", "_law_k", "_law_ahead", "_law_web", "_law_place"]
theorem sc_law_chain_right : FnScope n_law_chain_right ["_law_pool_here"] (defScope s_law_chain_right) := ⟨rfl, rfl, rfl, by decide +kernel, rfl, by decide +kernel, by decide +kernel⟩
def spChain : Sp := fun vs H Q _ => ∃ (p c : Addr), vs = [.ref p] ∧ PoolAt H p c ∧ ∀ H', Fr2 p c H H' → PoolAt H' p c → Q (.bl true) H'
theorem ok_law_chain_right {W_ : Addr} (T : Txt K mg) (c_law_draw : Cal CX0 P w K mg base 1 "_law_draw" spDraw) (c_law_mixed : Cal CX0 P w K mg base 2 "_law_mixed" spMixed) (c_law_some : Cal CX0 P w K mg base 2 "_law_some" spSome)
    (c_Web : C8.Mak P w K mg base 5 "Web" W_ (spInit K W_) []) (c_shortest_row : Cal CX0 P w K mg base 6 "shortest_row" (spShort K)) (c_law_same : Cal CX0 P w K mg base 3 "_law_same" spSame) (D : Df K mg "_law_chain_right" s_law_chain_right ["_law_pool_here"]) :
    Cal CX0 P w K mg base 7 "_law_chain_right" spChain := by
  refine D.cal sc_law_chain_right (fun vs H Q E h => ?_) (fun f cdv A outer s H vs Q E hr h => ?_)
  · obtain ⟨p, c, rfl, _⟩ := h
    rfl
  · obtain ⟨p, c, rfl, hP, q⟩ := h
    have hu6 := hu60 hr
    have nd := sc_law_chain_right.nd
    refine ⟨_, pss_cons (ps_set (i := 1) nd rfl (Or.inl rfl) (pe_op op_add pe_int (pe_cal c_law_draw hr (by decide) (by rfl) (pa_cons (pv 0) (pa_cons pe_int pa_nil)))))
      (pss_cons (ps_set (i := 2) nd rfl (Or.inl rfl) (pe_cal c_law_mixed hr (by decide) (by rfl) (pa_cons (pv 0) (pa_cons (pe_listRg rfl (by rfl) T.list (prg_1 (by rfl) T.range (pv 1))) pa_nil))))
      (pss_cons (ps_set (i := 3) nd rfl (Or.inl rfl) (pe_op op_rep (pe_lst (pa_cons (pe_tup (pa_cons (pe_tup (pa_cons pe_str (pa_cons pe_int pa_nil))) pa_nil)) pa_nil)) (pv 1)))
      (pss_cons (ps_for PassesOwn.never rfl (pi_range2 (by rfl) T.range (pa_cons pe_int (pa_cons (pv 1) pa_nil))) (pg_name (i := 4) nd rfl (Or.inl rfl))
        (pss_cons (ps_set (i := 5) nd rfl (Or.inl rfl) (pe_ix ix_list (pv 2) (pe_op op_sub (pv 4) pe_int) (fun _ _ => rfl)))
        (pss_one (ps_asg (pe_callTy call_tuple_of (by rfl) T.tuple (by decide +kernel) (pa_cons (pe_callB (cr_sortH hu6) (by rfl) T.sorted (by decide +kernel) (pa_cons (pe_lst (pa_cons (pe_tup (pa_cons pe_str (pa_cons (pv 5) pa_nil))) (pa_cons (pe_tup (pa_cons pe_str (pa_cons (pv 5) pa_nil))) (pa_cons (pe_cal c_law_some hr (by decide) (by rfl) (pa_cons (pv 0) (pa_cons (pe_lst (pa_cons (pe_tup (pa_cons pe_str (pa_cons pe_int pa_nil))) (pa_cons (pe_tup (pa_cons pe_str (pa_cons pe_int pa_nil))) (pa_cons (pe_tup (pa_cons pe_str (pa_cons (pe_ix ix_list (pv 2) (pe_un un_neg pe_int) (fun _ _ => rfl)) pa_nil))) pa_nil)))) pa_nil))) pa_nil)))) pa_nil)) pa_nil)) (pg_sub (pv 3) (pe_ix ix_list (pv 2) (pv 4) (fun _ _ => rfl)) set_list)))))
      (pss_cons (ps_set (i := 6) nd rfl (Or.inl rfl) (C8.pe_mk c_Web hr (by decide) (by rfl) (pa_cons pe_int (pa_cons (pe_callTy call_tuple_of (by rfl) T.tuple (by decide +kernel) (pa_cons (pv 3) pa_nil)) pa_nil))))
      (pss_cons (ps_set (i := 7) nd rfl (Or.inl rfl) (pe_cal c_law_draw hr (by decide) (by rfl) (pa_cons (pv 0) (pa_cons (pv 1) pa_nil))))
      (pss_one (ps_ret (pe_cal c_law_same hr (by decide) (by rfl) (pa_cons (pe_cal c_shortest_row hr (by decide) (by rfl) (pa_cons (pv 6) (pa_cons (pe_tup (pa_cons pe_int pa_nil)) (pa_cons (pe_ix ix_list (pv 2) (pv 7) (fun _ _ => rfl)) pa_nil)))) (pa_cons (pe_callTy call_tuple_of (by rfl) T.tuple (by decide +kernel) (pa_cons (pe_slice sl_list (pv 2) po_none (po_some (pe_op op_add (pv 7) pe_int))) pa_nil)) pa_nil)))))))))), ?_⟩
    refine ⟨_, rfl, p, c, 11, rfl, hP, by omega, by omega, fun n1 H1 n10 n11 fr1 hP1 => ⟨2, n1, rfl, rfl, ?_⟩⟩
    have hn : ∃ n : Nat, (2 : Int) + n1 = n ∧ 2 ≤ n ∧ n ≤ 12 := ⟨(2 + n1).toNat, by omega, by omega, by omega⟩
    obtain ⟨n, en, n2, n12⟩ := hn
    dsimp only
    rw [en]
    refine ⟨_, rfl, _, rfl, n, rfl, RgOk.of_le (by omega) (by omega) (by omega) (by omega), fun l nl => ?_⟩
    rw [rgV_upto]
    have big := sizeBig
    obtain ⟨lp, lc⟩ := hP1.ne nl
    refine ⟨p, c, l, _, rfl, hP1.new nl, upd_same, lp, lc, by rw [List.length_map, length_upto]; omega, fun O ys H2 nO hO pm fr2 hP2 => ?_⟩
    obtain ⟨os, rfl, pos⟩ := perm_ints pm
    have fr02 := (fr1.trans (Fr2.new nl)).trans fr2
    have nO1 : H1 O = none := by
      by_cases e : O = l
      · rw [e, upd_same] at nO
        cases nO
      · rwa [upd_ne e] at nO
    obtain ⟨Op, Oc⟩ := hP1.ne nO1
    clear fr1 hP1 fr2 pm
    have los : os.length = n := by rw [pos.length_eq, length_upto]
    have ndo : os.Nodup := pos.nodup_iff.mpr (nodup_upto n)
    -- houses = [(('f', 0),)] * many
    refine ⟨sz (by show 2 ≤ 1000000; omega), fun t0 nt0 => ⟨sz (by show 1 ≤ 1000000; omega), fun t nt => ⟨sz (by show 1 ≤ 1000000; omega), fun l2 nl2 => ?_⟩⟩⟩
    refine ⟨_, rfl, l2, n, _, rfl, rfl, upd_same, by omega, by omega, sz (by show 1 * (n : Int).toNat ≤ 1000000; omega), fun F nF => ?_⟩
    have ef : (List.replicate (n : Int).toNat [V.ref t]).flatten = List.replicate n (V.ref t) := by
      rw [Int.toNat_natCast]
      simp
    rw [ef]
    have s1 : Same H2 (upd (upd (upd H2 t0 (.tup [.str "f", .int 0])) t (.tup [.ref t0])) l2 (.lst [V.ref t])) := ((same_upd nt0).trans (same_upd nt)).trans (same_upd nl2)
    have hP3 : PoolAt (upd (upd (upd H2 t0 (.tup [.str "f", .int 0])) t (.tup [.ref t0])) l2 (.lst [V.ref t])) p c := hP2.same s1
    have e0 : HsAt (upd (upd (upd H2 t0 (.tup [.str "f", .int 0])) t (.tup [.ref t0])) l2 (.lst [V.ref t])) (.ref t) [.f 0] :=
      ⟨t, [.ref t0], rfl, same_upd nl2 _ _ upd_same, .cons ⟨t0, rfl, same_upd nl2 _ _ (same_upd nt _ _ upd_same)⟩ .nil⟩
    have hO3 := s1 _ _ hO
    have fr03 : Fr2 p c H (upd (upd (upd H2 t0 (.tup [.str "f", .int 0])) t (.tup [.ref t0])) l2 (.lst [V.ref t])) := fr02.trans (Fr2.of s1)
    generalize upd (upd (upd H2 t0 (.tup [.str "f", .int 0])) t (.tup [.ref t0])) l2 (.lst [V.ref t]) = H3 at nF s1 hP3 e0 hO3 fr03 ⊢
    have nF0 : H F = none := fr03.fresh hP3 nF
    obtain ⟨Fp, Fc⟩ := hP3.ne nF
    have OF : O ≠ F := ne_of_none hO3 nF
    have e1 : HsAt (upd H3 F (.lst (List.replicate n (V.ref t)))) (.ref t) [.f 0] := e0.ts (TS.upd nF)
    have frF := fr03.trans (Fr2.new (p := p) (c := c) (o := .lst (List.replicate n (V.ref t))) nF)
    have hPF := hP3.new (o := .lst (List.replicate n (V.ref t))) nF
    have gF : upd H3 F (.lst (List.replicate n (V.ref t))) F = some (.lst (List.replicate n (V.ref t))) := upd_same
    have hOF := same_upd (o := .lst (List.replicate n (V.ref t))) nF _ _ hO3
    generalize upd H3 F (.lst (List.replicate n (V.ref t))) = H4 at e1 frF hPF gF hOF ⊢
    refine ⟨_, rfl, 1, _, rfl, ⟨by omega, by omega, by omega, by omega⟩, for_range (lo := 1) (n := ((n : Int) - 1).toNat) (fun i σ H5 => ∃ o4 o5 xs hs, σ = [some (.ref p), some (.int n), some (.ref O), some (.ref F), o4, o5, none, none] ∧
      H5 F = some (.lst xs) ∧ H5 O = some (.lst (os.map V.int)) ∧ Paired (HsAt H5) xs hs ∧ hs.length = n ∧ (∀ (j : Nat) (k : Int), j ≤ i → os[j]? = some k → ∃ ds, hs[k.toNat]? = some ds ∧ Lk os j ds) ∧ Fr2 p c H H5 ∧ PoolAt H5 p c) ?_ ?_ ?_⟩
    · refine ⟨_, _, _, List.replicate n [.f 0], rfl, gF, hOF, paired_repl e1 n, List.length_replicate, fun j k hj hk => ?_, frF, hPF⟩
      have j0 : j = 0 := by omega
      subst j0
      have hm := mem_upto.mp (pos.mem_iff.mp (List.mem_of_getElem? hk))
      refine ⟨[.f 0], ?_, rfl⟩
      rw [List.getElem?_replicate, if_pos (by omega)]
    · rintro i σ H5 hi ⟨o4, o5, xs, hs, rfl, hF, hO5, pr, hl, hok, fr5, hP5⟩
      clear frF hPF gF hOF e1
      have hil : i + 1 < os.length := by omega
      have hi1 : os[i + 1]? = some os[i + 1] := List.getElem?_eq_getElem hil
      have hi0 : os[i]? = some os[i] := List.getElem?_eq_getElem (by omega)
      have hmm : 0 ≤ os[i + 1] ∧ os[i + 1] < (n : Int) := mem_upto.mp (pos.mem_iff.mp (List.getElem_mem hil))
      have hl1 : os[n - 1]? = some os[n - 1] := List.getElem?_eq_getElem (by omega)
      -- ahead
      refine ⟨_, rfl, _, rfl, _, 1, rfl, rfl, O, _, _, .int os[i], rfl, rfl, SqL.of hO5, at_of (j := i) (by omega) (by rw [List.getElem?_map, hi0]; rfl), ?_⟩
      -- the shares
      refine ⟨_, rfl, sz (by show 2 ≤ 1000000; omega), fun u1 nu1 => ⟨_, rfl, sz (by show 2 ≤ 1000000; omega), fun u2 nu2 => ?_⟩⟩
      refine ⟨_, rfl, sz (by show 2 ≤ 1000000; omega), fun u3 nu3 => ⟨sz (by show 2 ≤ 1000000; omega), fun u4 nu4 => ?_⟩⟩
      have s54 : Same H5 (upd (upd (upd (upd H5 u1 (.tup [.str "h", .int os[i]])) u2 (.tup [.str "h", .int os[i]])) u3 (.tup [.str "f", .int 0])) u4 (.tup [.str "f", .int 1])) := (((same_upd nu1).trans (same_upd nu2)).trans (same_upd nu3)).trans (same_upd nu4)
      have g1 : upd (upd (upd (upd H5 u1 (.tup [.str "h", .int os[i]])) u2 (.tup [.str "h", .int os[i]])) u3 (.tup [.str "f", .int 0])) u4 (.tup [.str "f", .int 1]) u1 = some (.tup [.str "h", .int os[i]]) := same_upd nu4 _ _ (same_upd nu3 _ _ (same_upd nu2 _ _ upd_same))
      have g2 : upd (upd (upd (upd H5 u1 (.tup [.str "h", .int os[i]])) u2 (.tup [.str "h", .int os[i]])) u3 (.tup [.str "f", .int 0])) u4 (.tup [.str "f", .int 1]) u2 = some (.tup [.str "h", .int os[i]]) := same_upd nu4 _ _ (same_upd nu3 _ _ upd_same)
      have g3 : upd (upd (upd (upd H5 u1 (.tup [.str "h", .int os[i]])) u2 (.tup [.str "h", .int os[i]])) u3 (.tup [.str "f", .int 0])) u4 (.tup [.str "f", .int 1]) u3 = some (.tup [.str "f", .int 0]) := same_upd nu4 _ _ upd_same
      have g4 : upd (upd (upd (upd H5 u1 (.tup [.str "h", .int os[i]])) u2 (.tup [.str "h", .int os[i]])) u3 (.tup [.str "f", .int 0])) u4 (.tup [.str "f", .int 1]) u4 = some (.tup [.str "f", .int 1]) := upd_same
      generalize upd (upd (upd (upd H5 u1 (.tup [.str "h", .int os[i]])) u2 (.tup [.str "h", .int os[i]])) u3 (.tup [.str "f", .int 0])) u4 (.tup [.str "f", .int 1]) = H6 at s54 g1 g2 g3 g4 ⊢
      have hP6 := hP5.same s54
      refine ⟨_, rfl, 1, rfl, O, _, _, .int os[n - 1], rfl, rfl, SqL.of (s54 _ _ hO5), at_last (n := n - 1) (by rw [List.length_map]; omega) (by rw [List.getElem?_map, hl1]; rfl), sz (by show 2 ≤ 1000000; omega), fun u5 nu5 => ⟨sz (by show 3 ≤ 1000000; omega), fun L nL => ?_⟩⟩
      have s67 : Same H6 (upd (upd H6 u5 (.tup [.str "h", .int os[n - 1]])) L (.lst [.ref u3, .ref u4, .ref u5])) := (same_upd nu5).trans (same_upd nL)
      have gL : upd (upd H6 u5 (.tup [.str "h", .int os[n - 1]])) L (.lst [.ref u3, .ref u4, .ref u5]) L = some (.lst [.ref u3, .ref u4, .ref u5]) := upd_same
      have g5 : upd (upd H6 u5 (.tup [.str "h", .int os[n - 1]])) L (.lst [.ref u3, .ref u4, .ref u5]) u5 = some (.tup [.str "h", .int os[n - 1]]) := same_upd nL _ _ upd_same
      obtain ⟨Lp, Lc⟩ := (hP6.new (o := .tup [.str "h", .int os[n - 1]]) nu5).ne nL
      generalize upd (upd H6 u5 (.tup [.str "h", .int os[n - 1]])) L (.lst [.ref u3, .ref u4, .ref u5]) = H7 at s67 gL g5 ⊢
      have hP7 := hP6.same s67
      have pr3 : Paired (HdAt H7) [.ref u3, .ref u4, .ref u5] [.f 0, .f 1, .h os[n - 1]] := .cons ⟨u3, rfl, s67 _ _ g3⟩ (.cons ⟨u4, rfl, s67 _ _ g4⟩ (.cons ⟨u5, rfl, g5⟩ .nil))
      refine ⟨p, c, L, _, rfl, hP7, gL, Lp, Lc, (fun z => nomatch z), (by show 3 ≤ 1000; omega), fun j x H8 hx fr8 hP8 => ?_⟩
      obtain ⟨sd, hsd, hat⟩ := paired_at pr3 hx
      have sd3 : sd = .f 0 ∨ sd = .f 1 ∨ ∃ m ∈ os, sd = .h m := by
        have := List.mem_of_getElem? hsd
        simp only [List.mem_cons, List.not_mem_nil, or_false] at this
        rcases this with h | h | h
        · exact .inl h
        · exact .inr (.inl h)
        · exact .inr (.inr ⟨_, List.getElem_mem (by omega), h⟩)
      have ts78 : TS H7 H8 := TS.fr2 hP7 fr8
      refine ⟨sz (by show 3 ≤ 1000000; omega), fun S nS => ?_⟩
      have gS : upd H8 S (.lst [.ref u1, .ref u2, x]) S = some (.lst [.ref u1, .ref u2, x]) := upd_same
      have tsS : TS H8 (upd H8 S (.lst [.ref u1, .ref u2, x])) := TS.upd nS
      have prS : Paired (HdAt (upd H8 S (.lst [.ref u1, .ref u2, x]))) [.ref u1, .ref u2, x] [.h os[i], .h os[i], sd] := .cons ⟨u1, rfl, tsS _ _ (ts78 _ _ (s67 _ _ g1))⟩ (.cons ⟨u2, rfl, tsS _ _ (ts78 _ _ (s67 _ _ g2))⟩ (.cons ((hat.ts ts78).ts tsS) .nil))
      have frS : Fr2 p c H5 (upd H8 S (.lst [.ref u1, .ref u2, x])) := ((Fr2.of (s54.trans s67)).trans fr8).trans (Fr2.new nS)
      have hPS := hP8.new (o := .lst [.ref u1, .ref u2, x]) nS
      generalize upd H8 S (.lst [.ref u1, .ref u2, x]) = H9 at gS prS frS hPS ⊢
      refine ⟨S, _, _, rfl, .inl (SqL.of gS), prS, sz (by show 3 ≤ 1000000; omega), fun zs es s1 ns1 pr1 pm asc => ?_⟩
      refine ⟨s1, zs, rfl, .inl ⟨SqL.of upd_same, fun u nu => ?_⟩⟩
      have s9A : Same H9 (upd (upd H9 s1 (.lst zs)) u (.tup zs)) := (same_upd ns1).trans (same_upd nu)
      have frA : Fr2 p c H5 (upd (upd H9 s1 (.lst zs)) u (.tup zs)) := frS.trans (Fr2.of s9A)
      have hPA := hPS.same s9A
      have gA : upd (upd H9 s1 (.lst zs)) u (.tup zs) u = some (.tup zs) := upd_same
      generalize upd (upd H9 s1 (.lst zs)) u (.tup zs) = HA at s9A frA hPA gA ⊢
      have hFA := frA F _ Fp Fc hF
      have hOA := frA O _ Op Oc hO5
      have ll := pr.length
      refine ⟨_, rfl, _, rfl, _, rfl, O, _, _, .int os[i + 1], rfl, rfl, SqL.of hOA, at_of (j := i + 1) (by omega) (by rw [List.getElem?_map, hi1]; rfl), F, xs, os[i + 1], os[i + 1].toNat, rfl, rfl, hFA, ?_, ?_⟩
      · unfold ixN
        rw [if_pos hmm.1, if_pos (by omega)]
      have tsE : TS HA (upd HA F (.lst (xs.set os[i + 1].toNat (.ref u)))) := TS.lst hFA
      have ts5E := (TS.fr2 hP5 frA).trans tsE
      refine ⟨_, _, xs.set os[i + 1].toNat (.ref u), hs.set os[i + 1].toNat es, rfl, upd_same, by rw [upd_ne OF]; exact hOA, paired_set _ (paired_ts (fun _ _ q => q.ts ts5E) pr) ⟨u, zs, rfl, tsE _ _ gA, paired_ts (fun _ _ q => q.ts ((TS.of s9A).trans tsE)) pr1⟩, by rw [List.length_set, hl], fun j k hj hk => ?_, (fr5.trans frA).written nF0, hPA.lst Fp Fc rfl⟩
      by_cases ej : j = i + 1
      · subst ej
        rw [hi1] at hk
        cases hk
        refine ⟨es, ?_, os[i], sd, hi0, pm, sd3, asc⟩
        rw [List.getElem?_set_self (by omega)]
      · obtain ⟨ds', h1, h2⟩ := hok j k (by omega) hk
        have hk0 := mem_upto.mp (pos.mem_iff.mp (List.mem_of_getElem? hk))
        refine ⟨ds', ?_, h2⟩
        rw [List.getElem?_set_ne (fun z => ?_)]
        · exact h1
        · have e2 : os[i + 1] = k := by omega
          rw [← e2] at hk
          exact ej ((List.getElem?_inj (by omega) ndo).mp (hi1.trans hk.symm)).symm
    · rintro σ H5 ⟨o4, o5, xs, hs, rfl, hF, hO5, pr, hl, hok, fr5, hP5⟩
      have LK : Links os hs := ⟨by rw [hl]; exact pos, fun j k hk => hok j k (by
        have := (List.getElem?_eq_some_iff.mp hk).1
        omega) hk⟩
      refine ⟨_, rfl, F, xs, rfl, .inl ⟨SqL.of hF, fun t6 nt6 => fun wx dx nx ndx _ => make_web1 nx ndx (fun b => b ≠ p ∧ b ≠ c) ⟨t6, xs, rfl, upd_same, paired_ts (fun _ _ q => q.ts (TS.upd nt6)) pr⟩ (LK.wok (by omega)) (fun b e => (hP5.new nt6).ne e) fun H6 sm6 web => ⟨rfl, ?_⟩⟩⟩
      have sm56 : Same H5 H6 := (same_upd nt6).trans sm6
      have hP6 := hP5.same sm56
      have hO6 := sm56 _ _ hO5
      refine ⟨_, rfl, _, rfl, p, c, n, rfl, hP6, by omega, by omega, fun d H7 d0 d1 fr7 hP7 => ?_⟩
      have web7 := web.keep (Keeps.fr2 hP6 fr7)
      have hO7 := fr7 O _ Op Oc hO6
      have dn : d = ((d.toNat : Nat) : Int) := (Int.toNat_of_nonneg d0).symm
      have hdl : d.toNat < os.length := by omega
      have hod : os[d.toNat]? = some os[d.toNat] := List.getElem?_eq_getElem hdl
      have hb := LK.bnd _ (List.getElem_mem hdl)
      refine ⟨_, rfl, sz (by show 1 ≤ 1000000; omega), fun u nu => ?_⟩
      have sm78 := same_upd (o := .tup [V.int 0]) nu
      have web8 := web7.keep (Keeps.same sm78)
      refine ⟨_, rfl, _, rfl, O, _, d, .int os[d.toNat], rfl, rfl, SqL.of (sm78 _ _ hO7), at_of dn (by rw [List.getElem?_map, hod]; rfl), ?_⟩
      have lok : LotOk 2 [0] := ⟨List.pairwise_singleton _ _, fun k hk => by rw [List.mem_singleton.mp hk]; exact ⟨by omega, by omega⟩⟩
      refine ⟨.ref wx, .ref u, os[d.toNat], 2, hs, [0], _, rfl, ⟨web8, ⟨u, rfl, upd_same⟩, lok, LK.wok (by omega)⟩, hb.1, hb.2, fun y H9 sm9 ans => ?_⟩
      have best := LK.chain.best hod
      have hO9 := sm9 _ _ (sm78 _ _ hO7)
      rcases ans with ⟨_, nv⟩ | ⟨r, hr9, b9⟩
      · exact absurd nv best.not_never
      · have er : r = os.take (d.toNat + 1) := b9.unique best
        subst er
        refine ⟨_, rfl, _, rfl, d, 1, rfl, rfl, d + 1, rfl, O, _, rfl, SqL.of hO9, fun z nz => ?_⟩
        have e1 : d + 1 = ((d.toNat + 1 : Nat) : Int) := by omega
        rw [e1, cut_take os (by omega)]
        refine ⟨z, _, rfl, .inl ⟨SqL.of upd_same, fun v nv => ?_⟩⟩
        have smE : Same H9 (upd (upd H9 z (.lst ((os.take (d.toNat + 1)).map V.int))) v (.tup ((os.take (d.toNat + 1)).map V.int))) := (same_upd nz).trans (same_upd nv)
        refine ⟨y, .ref v, rfl, .inr ⟨_, by rw [List.length_take]; omega, hr9.ts (TS.of smE), ⟨v, rfl, upd_same⟩⟩, ?_⟩
        have smAll := (sm78.trans sm9).trans smE
        exact q _ (((fr5.trans (Fr2.of sm56)).trans fr7).trans (Fr2.of smAll)) (hP7.same smAll)
end
end K23
/-! The law. -/
namespace K23
open PySem PySem.Spec PyProof.Rows L2
theorem same_ans {H : Hp} {x y : V} {N : Nat} {hf : Int → List Int → Bool} {h : Int} (hN : N ≤ 1000) (a : Ans H x N hf h) (b : Ans H y N hf h) : (x = .non ∧ y = .non) ∨ ∃ r, r.length ≤ 1000 ∧ RowAt H x r ∧ RowAt H y r := by
  rcases a with ⟨e1, n1⟩ | ⟨r1, h1, b1⟩
  · rcases b with ⟨e2, _⟩ | ⟨r2, _, b2⟩
    · exact .inl ⟨e1, e2⟩
    · exact absurd n1 b2.not_never
  · rcases b with ⟨_, n2⟩ | ⟨r2, h2, b2⟩
    · exact absurd n2 b1.not_never
    · have e := b2.unique b1
      subst e
      have := b1.row.length_le
      exact .inr ⟨r2, by omega, h1, h2⟩
theorem Ans.same {H H' : Hp} {x : V} {N : Nat} {hf : Int → List Int → Bool} {h : Int} (a : Ans H x N hf h) (k : Same H H') : Ans H' x N hf h := by
  rcases a with a | ⟨r, h1, b⟩
  · exact .inl a
  · exact .inr ⟨r, h1.ts (TS.of k), b⟩
theorem WebOk.pl {folk : Int} {hs : List (List Hd)} (h : WebOk folk hs) : ∀ ds ∈ hs, ds.length ≤ 1000 := fun ds hd => by
  have := (h.ok ds hd).len
  omega
section
variable {P : Program} {w : World} {K : PySem.W.Frag} {mg : Str → Option Value} {base : Heap}
def spLaw (K : PySem.W.Frag) : Sp := fun vs H Q _ => ∃ (a : Addr) (ns : List Int), vs = [.ref a] ∧ SqL K H a (ns.map V.int) ∧ ns.length ≤ 63 ∧ ∀ H', Q (.bl true) H'
abbrev n_law : List Str := ["_law_script", "_law_pool_here", "_law_parts_here", "_law_web", "_law_again", "_law_lot_here", "_law_house"]
theorem sc_law : FnScope n_law ["_law_script"] (defScope s_law) := ⟨rfl, rfl, rfl, by decide +kernel, rfl, by decide +kernel, by decide +kernel⟩
theorem ok_law {f W_ : Addr} {fd : FuncData} (T : Txt K mg) (c_law_pool : Cal CX0 P w K mg base 1 "_law_pool" (spPool K)) (c_law_draw : Cal CX0 P w K mg base 1 "_law_draw" spDraw) (c_law_parts : Cal CX0 P w K mg base 3 "_law_parts" spParts)
    (c_law_deep_parts : Cal CX0 P w K mg base 3 "_law_deep_parts" spDeep) (c_law_lot : Cal CX0 P w K mg base 2 "_law_lot" spLot) (c_Web : C8.Mak P w K mg base 5 "Web" W_ (spInit K W_) []) (c_shortest_row : Cal CX0 P w K mg base 6 "shortest_row" (spShort K))
    (c_law_least_row : Cal CX0 P w K mg base 2 "_law_least_row" spLeast) (c_law_same : Cal CX0 P w K mg base 3 "_law_same" spSame) (c_law_great_right : Cal CX0 P w K mg base 7 "_law_great_right" (spGreat K))
    (c_law_chain_right : Cal CX0 P w K mg base 7 "_law_chain_right" spChain) (c_law_too_many : Cal CX0 P w K mg base 8 "_law_too_many" (spTooMany K)) (F : Fun K "law" "law" s_law f fd) : FnOk P w K mg base CX0 9 f fd ["_law_script"] (spLaw K) := by
  refine F.ok sc_law (fun vs H Q E h => ?_) (fun cdv A outer s H vs Q E hr h => ?_)
  · obtain ⟨a, ns, rfl, _⟩ := h
    rfl
  · obtain ⟨a, ns, rfl, hs0, len63, q⟩ := h
    have nd := sc_law.nd
    refine ⟨_, pss_cons (ps_set (i := 1) nd rfl (Or.inl rfl) (pe_cal c_law_pool hr (by decide) (by rfl) (pa_cons (pv 0) pa_nil)))
      (pss_cons (ps_set (i := 2) nd rfl (Or.inl rfl) (pe_cal c_law_parts hr (by decide) (by rfl) (pa_cons (pv 1) (pa_cons pe_int pa_nil))))
      (C8.pss_cut (ps_if (pt_cmpR op_eq (pe_cal c_law_draw hr (by decide) (by rfl) (pa_cons (pv 1) (pa_cons pe_int pa_nil))) pe_int (nomark _)) (pss_one (ps_set (i := 2) nd rfl (Or.inl rfl) (pe_cal c_law_deep_parts hr (by decide) (by rfl) (pa_cons (pv 1) pa_nil)))) pss_nil)
      (pss_cons (ps_set (i := 3) nd rfl (Or.inl rfl) (C8.pe_mk c_Web hr (by decide) (by rfl) (pa_cons (pe_ix ix_tup (pv 2) pe_int (fun _ _ => rfl)) (pa_cons (pe_ix ix_tup (pv 2) pe_int (fun _ _ => rfl)) pa_nil))))
      (pss_cons (ps_for PassesOwn.never rfl (pi_range1 (by rfl) T.range (pa_cons pe_int pa_nil)) (pg_name (i := 4) nd rfl (Or.inl rfl))
        (pss_cons (ps_set (i := 5) nd rfl (Or.inl rfl) (pe_cal c_law_lot hr (by decide) (by rfl) (pa_cons (pv 1) (pa_cons (pe_ix ix_tup (pv 2) pe_int (fun _ _ => rfl)) pa_nil))))
        (pss_one (ps_if (pt_cmpR op_lt (pe_callB call_len_seq (by rfl) T.len (by decide +kernel) (pa_cons (pe_ix ix_tup (pv 2) pe_int (fun _ _ => rfl)) pa_nil)) pe_int (nomark _)) (pss_one (ps_for PassesOwn.never rfl (pi_range1 (by rfl) T.range (pa_cons (pe_callB call_len_seq (by rfl) T.len (by decide +kernel) (pa_cons (pe_ix ix_tup (pv 2) pe_int (fun _ _ => rfl)) pa_nil)) pa_nil)) (pg_name (i := 6) nd rfl (Or.inl rfl))
            (pss_one (ps_if (pt_not (pt_val (pe_cal c_law_same hr (by decide) (by rfl) (pa_cons (pe_cal c_shortest_row hr (by decide) (by rfl) (pa_cons (pv 3) (pa_cons (pv 5) (pa_cons (pv 6) pa_nil)))) (pa_cons (pe_cal c_law_least_row hr (by decide) (by rfl) (pa_cons (pv 2) (pa_cons (pv 5) (pa_cons (pv 6) pa_nil)))) pa_nil))))) (pss_one (ps_ret pe_bl)) pss_nil)))) (pss_one (ps_if (pt_not (pt_val (pe_cal c_law_great_right hr (by decide) (by rfl) (pa_cons (pv 2) (pa_cons (pv 3) (pa_cons (pv 5) (pa_cons (pe_cal c_law_draw hr (by decide) (by rfl) (pa_cons (pv 1) (pa_cons (pe_callB call_len_seq (by rfl) T.len (by decide +kernel) (pa_cons (pe_ix ix_tup (pv 2) pe_int (fun _ _ => rfl)) pa_nil)) pa_nil))) pa_nil))))))) (pss_one (ps_ret pe_bl)) pss_nil))))))
      (pss_one (ps_ret (pe_and (pe_cal c_law_chain_right hr (by decide) (by rfl) (pa_cons (pv 1) pa_nil)) (pe_one (pe_cal c_law_too_many hr (by decide) (by rfl) (pa_cons (pv 2) (pa_cons (pv 3) (pa_cons (pv 5) pa_nil)))))))))))), ?_⟩
    refine ⟨_, rfl, a, ns, rfl, hs0, len63, fun p c H1 hP1 => ?_⟩
    refine ⟨_, rfl, p, c, rfl, hP1, fun x folk hs H2 pa wok n1 fr2 hP2 => ?_⟩
    refine ⟨fun σ' H' => ∃ x folk hs, σ' = [some (.ref a), some (.ref p), some x, none, none, none, none] ∧ PartsAt H' x folk hs ∧ WebOk folk hs ∧ 1 ≤ hs.length ∧ PoolAt H' p c, ?_, ?_⟩
    · refine ⟨_, rfl, p, c, 3, rfl, hP2, by omega, by omega, fun d H3 d0 d1 fr3 hP3 => ⟨rfl, _, rfl, ite2 (fun e => ?_) (fun e => ?_)⟩⟩
      · exact ⟨_, rfl, p, c, rfl, hP3, fun x' folk' hs' H4 pa' wok' n1' fr4 hP4 => ⟨x', folk', hs', rfl, pa', wok', n1', hP4⟩⟩
      · exact ⟨x, folk, hs, rfl, pa.ts (TS.fr2 hP2 fr3), wok, n1, hP3⟩
    clear pa wok n1 fr2 hP2
    rintro σ' H3 ⟨x, folk, hs, rfl, pa, wok, n1, hP3⟩
    have f0 := wok.f0
    have f6 := wok.f1
    have few := wok.n1
    have lenD := wok.pl
    -- the web
    obtain ⟨xa, wv, rfl, hx, wsat⟩ := id pa
    refine ⟨_, rfl, xa, _, 0, .int folk, rfl, rfl, SqT.of hx, atI_nat (j := 0) rfl, _, rfl, xa, _, 1, wv, rfl, rfl, SqT.of hx, atI_nat (j := 1) rfl, fun wx dx nx ndx _ => make_web1 nx ndx (fun b => b ≠ p ∧ b ≠ c) wsat wok (fun b e => hP3.ne e) fun H4 sm4 web => ⟨rfl, ?_⟩⟩
    have hP4 := hP3.same sm4
    have pa4 := pa.ts (TS.of sm4)
    -- three lots
    refine ⟨3, rfl, by omega, by omega, for_range (lo := 0) (n := (3 : Int).toNat) (fun i σ H5 => ∃ o4 o5 o6, σ = [some (.ref a), some (.ref p), some (.ref xa), some (.ref wx), o4, o5, o6] ∧ PartsAt H5 (.ref xa) folk hs ∧ WebAt K (fun b => b ≠ p ∧ b ≠ c) H5 (.ref wx) folk hs ∧ PoolAt H5 p c ∧
      (0 < i → ∃ l lot, o5 = some l ∧ RowAt H5 l lot ∧ LotOk folk lot)) ?_ ?_ ?_⟩
    · exact ⟨_, _, _, rfl, pa4, web, hP4, fun z => absurd z (Nat.lt_irrefl 0)⟩
    · rintro i σ H5 hi ⟨o4, o5, o6, rfl, pa5, web5, hP5, _⟩
      clear pa4 web hP4
      obtain ⟨xa', wv5, e, hx5, ⟨wa, ws, rfl, hwa, pw⟩⟩ := id pa5
      cases e
      have lw := pw.length
      refine ⟨_, rfl, _, rfl, xa, _, 0, .int folk, rfl, rfl, SqT.of hx5, atI_nat (j := 0) rfl, p, c, folk, rfl, hP5, by omega, by omega, fun l lot H6 hl lok fr6 hP6 => ?_⟩
      have ts6 := TS.fr2 hP5 fr6
      have pa6 := pa5.ts ts6
      have web6 := web5.keep (Keeps.fr2 hP5 fr6)
      have hx6 := ts6 _ _ hx5
      have hwa6 := ts6 _ _ hwa
      have pl6 : PL H6 (.ref xa) l folk hs lot := ⟨pa6, hl, few, lenD⟩
      have wl6 : WL K _ H6 (.ref wx) l folk hs lot := ⟨web6, hl, lok, wok⟩
      refine ⟨_, rfl, xa, _, 1, .ref wa, rfl, rfl, SqT.of hx6, atI_nat (j := 1) rfl, wa, ws, rfl, .inr (SqT.of hwa6), _, 6, rfl, rfl, _, rfl, ite2 (fun e => ?_) (fun e => ?_)⟩
      · have e := of_decide_eq_true e
        have five : hs.length ≤ 5 := by omega
        refine ⟨_, rfl, xa, _, 1, .ref wa, rfl, rfl, SqT.of hx6, atI_nat (j := 1) rfl, wa, ws, rfl, .inr (SqT.of hwa6), _, rfl, by omega, by omega, for_range (lo := 0) (n := (ws.length : Int).toNat) (fun k σ H7 => ∃ o6, σ = [some (.ref a), some (.ref p), some (.ref xa), some (.ref wx), some (.int (0 + i)), some l, o6] ∧ Same H6 H7) ⟨_, rfl, fun _ _ e => e⟩ ?_ ?_⟩
        · rintro k σ H7 hk ⟨o6, rfl, sm7⟩
          rw [Int.toNat_natCast] at hk
          rw [Int.zero_add (k : Int)]
          refine ⟨_, rfl, _, rfl, _, rfl, .ref wx, l, (k : Int), folk, hs, lot, _, rfl, wl6.same sm7, by omega, by omega, fun y H8 sm8 ans1 => ?_⟩
          have sm68 := sm7.trans sm8
          refine ⟨_, rfl, _, rfl, _, rfl, .ref xa, l, folk, hs, lot, (k : Int), rfl, pl6.ts (TS.of sm68), five, fun z H9 sm9 ans2 => ?_⟩
          refine ⟨y, z, rfl, same_ans (by omega) (ans1.same sm9) ans2, true, rfl, iteF ⟨_, rfl, sm68.trans sm9⟩⟩
        · rintro σ H7 ⟨o6, rfl, sm7⟩
          exact ⟨_, _, _, rfl, pa6.ts (TS.of sm7), web6.keep (Keeps.same sm7), hP6.same sm7, fun _ => ⟨l, lot, rfl, hl.ts (TS.of sm7), lok⟩⟩
      · refine ⟨_, rfl, _, rfl, _, rfl, _, rfl, _, rfl, xa, _, 1, .ref wa, rfl, rfl, SqT.of hx6, atI_nat (j := 1) rfl, wa, ws, rfl, .inr (SqT.of hwa6), p, c, _, rfl, hP6, by omega, by omega, fun d H7 d0 d1 fr7 hP7 => ?_⟩
        have ts7 := TS.fr2 hP6 fr7
        have web7 := web6.keep (Keeps.fr2 hP6 fr7)
        refine ⟨.ref xa, .ref wx, l, d, folk, hs, lot, _, rfl, pl6.ts ts7, ⟨web7, hl.ts ts7, lok, wok⟩, d0, by omega, fun H8 sm8 => ⟨true, rfl, iteF ?_⟩⟩
        exact ⟨_, _, _, rfl, (pa6.ts ts7).ts (TS.of sm8), web7.keep (Keeps.same sm8), hP7.same sm8, fun _ => ⟨l, lot, rfl, (hl.ts ts7).ts (TS.of sm8), lok⟩⟩
    · rintro σ H5 ⟨o4, o5, o6, rfl, pa5, web5, hP5, hlot⟩
      obtain ⟨l, lot, rfl, hl, lok⟩ := hlot (by decide)
      refine ⟨_, rfl, p, c, rfl, hP5, fun H6 fr6 hP6 => ⟨true, rfl, iteT ?_⟩⟩
      have ts6 := TS.fr2 hP5 fr6
      exact ⟨_, rfl, _, rfl, _, rfl, .ref xa, .ref wx, l, folk, hs, lot, _, rfl, pa5.ts ts6, ⟨web5.keep (Keeps.fr2 hP5 fr6), hl.ts ts6, lok, wok⟩, n1, fun H' => q H'⟩
end
end K23
namespace K23
open PySem PySem.Spec PyProof.Rows L2
theorem facts_ok {P : Program} {w : World} {K : PySem.W.Frag} {mg : Str → Option Value} {base : Heap} {f : Addr} {fd : FuncData} (F : Facts P K mg) (FL : Fun K "law" "law" s_law f fd) : FnOk P w K mg base CX0 9 f fd ["_law_script"] (spLaw K) := by
  have T := F.T
  obtain ⟨W_, R_, fI, fK, fR, dI, dK, dR, wcC, wcR, MkC, MkR, mC, mR, FI, FK, FR, bI, bK, bR, mK, mKR⟩ := F.web
  obtain ⟨TM, fT, cc, cda, TMA⟩ := F.tm
  -- the program
  have c_is_integer : Cal CX0 P w K mg base 1 "is_integer" spIsInt := ok_is_integer T F.d_is_integer
  have c_is_within : Cal CX0 P w K mg base 2 "is_within" spIsWithin := ok_is_within c_is_integer F.d_is_within
  have c_is_pair : Cal CX0 P w K mg base 1 "is_pair" spPair := ok_is_pair T F.d_is_pair
  have c_is_holder_of : Cal CX0 P w K mg base 3 "is_holder_of" spHolderOf := ok_is_holder_of T c_is_pair c_is_within F.d_is_holder_of
  have c_are_rising : Cal CX0 P w K mg base 1 "are_rising" spRising := ok_are_rising T F.d_are_rising
  have c_are_shares : Cal CX0 P w K mg base 4 "are_shares" spShares := ok_are_shares T c_is_holder_of c_are_rising F.d_are_shares
  have c_are_ascending : Cal CX0 P w K mg base 1 "are_ascending" spAscending := ok_are_ascending T F.d_are_ascending
  have c_is_lot : Cal CX0 P w K mg base 3 "is_lot" spIsLot := ok_is_lot T c_is_within c_are_ascending F.d_is_lot
  have GK : FnOk P w K mg base CX0 1 fK dK ["self", "folk", "houses"] (spKeep K) := ok_keep T FK
  have c_Web : C8.Mak P w K mg base 5 "Web" W_ (spInit K W_) [] := ⟨fI, dI, _, [], MkC, ok_web_init T wcC mK GK bK c_is_within c_are_shares FI, mC, bI, .nil⟩
  have c_RawWeb : C8.Mak P w K mg base 2 "RawWeb" R_ (spInitR K R_) [] := ⟨fR, dR, _, [], MkR, ok_raw_init wcR mKR GK bK FR, mR, bR, .nil⟩
  have c_raw_web : Cal CX0 P w K mg base 4 "raw_web" (spRawWeb K) := ok_raw_web T c_RawWeb F.d_raw_web
  have c_shifted : Cal CX0 P w K mg base 1 "shifted" spShifted := ok_shifted T F.d_shifted
  have c_check_match : Cal CX0 P w K mg base 1 "check_match" (spMatch K) := ok_check_match F.d_check_match
  have c_beside : Cal CX0 P w K mg base 5 "beside" (spBeside K) := ok_beside T c_check_match c_raw_web c_shifted F.d_beside
  have c_shares_with : Cal CX0 P w K mg base 1 "shares_with" (spSharesW K) := ok_shares_with T F.d_shares_with
  have c_has_half : Cal CX0 P w K mg base 2 "has_half" (spHalfW K) := ok_has_half T c_shares_with F.d_has_half
  have c_is_house : Cal CX0 P w K mg base 3 "is_house" (spIsHouse K) := ok_is_house T c_is_within F.d_is_house
  have c_check_house : Cal CX0 P w K mg base 4 "check_house" (spCheckHouse K) := ok_check_house c_is_house F.d_check_house
  have c_check_lot : Cal CX0 P w K mg base 4 "check_lot" (spCheckLot K) := ok_check_lot c_is_lot F.d_check_lot
  have c_check_lot_and_house : Cal CX0 P w K mg base 5 "check_lot_and_house" (spCheckLH K) := ok_check_lot_and_house c_check_lot c_check_house F.d_check_lot_and_house
  have c_carried_of : Cal CX0 P w K mg base 3 "carried_of" (spCarriedOf K) := ok_carried_of T c_has_half F.d_carried_of
  have c_row : Cal CX0 P w K mg base 6 "row" (spRow K) := ok_row T c_carried_of c_check_lot_and_house F.d_row
  have c_check_many : Cal CX0 P w K mg base 1 "check_many" spMany0 := ok_check_many0 F.d_check_many
  have c_longer_rows : Cal CX0 P w K mg base 3 "longer_rows" (spLonger K) := ok_longer_rows T c_has_half F.d_longer_rows
  have c_shortest_row : Cal CX0 P w K mg base 6 "shortest_row" (spShort K) := ok_shortest_row T c_check_lot_and_house c_check_many c_has_half c_longer_rows F.d_shortest_row
  have x_check_many : Cal (L2.CX P w) P w K mg base 2 "check_many" (spManyX TM) := ok_check_manyX TMA F.d_check_many
  have x_shortest_row : Cal (L2.CX P w) P w K mg base 6 "shortest_row" (spShortX K TM) := ok_shortest_rowX T c_check_lot_and_house x_check_many F.d_shortest_row
  -- the law's helpers
  have c_law_pool : Cal CX0 P w K mg base 1 "_law_pool" (spPool K) := ok_law_pool T F.d_law_pool
  have c_law_draw : Cal CX0 P w K mg base 1 "_law_draw" spDraw := ok_law_draw T F.d_law_draw
  have c_law_some : Cal CX0 P w K mg base 2 "_law_some" spSome := ok_law_some T c_law_draw F.d_law_some
  have c_law_mixed : Cal CX0 P w K mg base 2 "_law_mixed" spMixed := ok_law_mixed T c_law_draw F.d_law_mixed
  have c_law_integer : Cal CX0 P w K mg base 1 "_law_integer" spIsInt := ok_law_integer T F.d_law_integer
  have c_law_sameI : Cal CX0 P w K mg base 2 "_law_same" spSameI := ok_law_sameI T c_law_integer F.d_law_same
  have c_law_same : Cal CX0 P w K mg base 3 "_law_same" spSame := ok_law_same T c_law_integer c_law_sameI F.d_law_same
  have c_law_holder : Cal CX0 P w K mg base 2 "_law_holder" spHolder := ok_law_holder T c_law_draw F.d_law_holder
  have c_law_parts : Cal CX0 P w K mg base 3 "_law_parts" spParts := ok_law_parts T c_law_draw c_law_holder F.d_law_parts
  have c_law_deep_parts : Cal CX0 P w K mg base 3 "_law_deep_parts" spDeep := ok_law_deep_parts T c_law_draw c_law_mixed c_law_holder F.d_law_deep_parts
  have c_law_lot : Cal CX0 P w K mg base 2 "_law_lot" spLot := ok_law_lot T c_law_draw F.d_law_lot
  have c_law_has_half : Cal CX0 P w K mg base 1 "_law_has_half" (spLHalf K) := ok_law_has_half T F.d_law_has_half
  have c_law_layers : Cal CX0 P w K mg base 2 "_law_layers" spLayers := ok_law_layers T c_law_has_half F.d_law_layers
  have c_law_carried : Cal CX0 P w K mg base 3 "_law_carried" spCarried := ok_law_carried T c_law_layers F.d_law_carried
  have c_law_depth : Cal CX0 P w K mg base 3 "_law_depth" spDepth := ok_law_depth T c_law_layers F.d_law_depth
  have c_law_row_fault : Cal CX0 P w K mg base 2 "_law_row_fault" spFault := ok_law_row_fault T c_law_integer c_law_has_half F.d_law_row_fault
  have c_law_least_row : Cal CX0 P w K mg base 2 "_law_least_row" spLeast := ok_law_least_row T c_law_has_half F.d_law_least_row
  have c_law_least_by_lots : Cal CX0 P w K mg base 2 "_law_least_by_lots" spLots := ok_law_least_by_lots T c_law_has_half F.d_law_least_by_lots
  have c_law_great_right : Cal CX0 P w K mg base 7 "_law_great_right" (spGreat K) := ok_law_great_right T c_shortest_row c_law_depth c_law_row_fault c_law_carried c_law_same c_law_least_by_lots c_row F.d_law_great_right
  have c_law_chain_right : Cal CX0 P w K mg base 7 "_law_chain_right" spChain := ok_law_chain_right T c_law_draw c_law_mixed c_law_some c_Web c_shortest_row c_law_same F.d_law_chain_right
  have c_law_too_many : Cal CX0 P w K mg base 8 "_law_too_many" (spTooMany K) := ok_law_too_many T TMA c_Web c_beside x_shortest_row F.d_law_too_many
  exact ok_law T c_law_pool c_law_draw c_law_parts c_law_deep_parts c_law_lot c_Web c_shortest_row c_law_least_row c_law_same c_law_great_right c_law_chain_right c_law_too_many FL
theorem all_mk {l : PySem.W.OpenLaw} {w : World} {K : PySem.W.Frag} {h : Heap} {mg : Str → Option Value} {fa f : Addr} {od an : Option Addr} {sl : Array (Option Value)} {oc kV dc pm cd ct : Value} (X : K.In h) (G : h.Ns mainGlobals mg) (hfa : mg "law" = some (.ref fa))
    (F : Facts l.prog K mg) (a : PySem.W.nsIn K mainGlobals "law" = some (some (.ref f))) (lk : K.lookup f = some ⟨oc, od, .func (PySem.W.fnOf "law" "law" (defArgs s_law) (defBody s_law) (defScope s_law) .none kV dc pm an cd ct), sl⟩)
    (c : PySem.W.codeIn K cd "law" = true) (k : PySem.W.keepIn K (.ref f) = true) :
    ∃ fd : FuncData, (∀ (s : Shared) (v : Value), BindsTo s fd ⟨[v], []⟩ [("_law_script", v)]) ∧ ∀ base : Heap, K.In base → base.Ns mainGlobals mg → FnOk l.prog w K mg base CX0 9 fa fd ["_law_script"] (spLaw K) := by
  have e := hfa.symm.trans (PySem.W.mg_of X G a)
  cases e
  exact ⟨_, fun s v => .of_eq rfl, fun base _ _ => facts_ok F (fun_mk (st := s_law) lk c k)⟩
theorem walk {l : PySem.W.OpenLaw} {q : Program} {loose : List Str} {XP : (Str → Option Value) → Heap → Prop} {YP : World → Heap → Prop} {d : DefRec} {K : Params → PySem.W.Frag} (hn : l.most = some 63) (hdf : d.params.defaults = [])
    (hY : ∀ (w : World) (h : Heap), YP w h → (K w.params).In h)
    (F : ∀ (w : World) (mg : Str → Option Value) (fa : Addr) (h : Heap), (K w.params).In h → h.Ns mainGlobals mg → mg d.name = some (.ref fa) →
      ∃ fd : FuncData, (∀ (s : Shared) (u : Value), BindsTo s fd ⟨[u], []⟩ [("_law_script", u)]) ∧ ∀ base : Heap, (K w.params).In base → base.Ns mainGlobals mg → FnOk l.prog w (K w.params) mg base CX0 9 fa fd ["_law_script"] (spLaw (K w.params))) :
    PySem.W.WalkO q loose XP YP l.row.toRowW d [] (fun f vs => PySem.call f vs) :=
  L2.walk_of (n := 63) (k := 9) (x := "_law_script") (CX := fun _ => CX0) (sp := fun w => spLaw (K w.params)) hn (by decide) hdf ⟨rfl, by decide, by decide⟩ hY F (fun _ _ a ns hl _ hS => ⟨a, ns, rfl, hS, hl, fun _ => rfl⟩) fun _ _ _ _ _ z => z
end K23
open PySem PySem.W PyProof.Rows in
set_option maxRecDepth 100000 in
set_option maxHeartbeats 0 in
theorem PySem.Challenge.cw_roundowned_k23_whole_shortest_rows_holds : PySem.Challenge.rw_roundowned_k23_whole_shortest_rows.Holds := by
  w_on; o_law; k_head; (case hw => w_witness2)
  k_fill
  refine K23.walk (l := PySem.Challenge.rw_roundowned_k23_whole_shortest_rows) rfl rfl (fun w h Y => PySem.W.kIn_of Y) ?F
  case F =>
    intro w mg fa h KX G hmg
    have T := K23.txt_have KX (mg := mg) (by
      refine' K23.txt_mk KX G ?t_isinstance ?t_int ?t_bool ?t_str ?t_tuple ?t_list ?t_len ?t_all ?t_range ?t_enumerate ?t_sorted ?t_sum ?t_min ?t_abs ?v1 ?v2 ?v3 ?v4
      (case t_isinstance => k_is)
      (case t_int => k_is)
      (case t_bool => k_is)
      (case t_str => k_is)
      (case t_tuple => k_is)
      (case t_list => k_is)
      (case t_len => k_is)
      (case t_all => k_is)
      (case t_range => k_is)
      (case t_enumerate => k_is)
      (case t_sorted => k_is)
      (case t_sum => k_is)
      (case t_min => k_is)
      (case t_abs => k_is)
      (case v1 => k_is)
      (case v2 => k_is)
      (case v3 => k_is)
      (case v4 => k_is))
    have d_is_integer := K23.df_have KX (mg := mg) (x := "is_integer") (st := K23.s_is_integer) (ps := ["thing"]) (by
      refine' K23.df_mk KX G ?a ?l ?c ?k (fun _ _ _ _ _ _ us hl => match us, hl with | [_], _ => rfl)
      (case a => k_is)
      (case l => k_is)
      (case c => k_is)
      (case k => k_is))
    have d_is_within := K23.df_have KX (mg := mg) (x := "is_within") (st := K23.s_is_within) (ps := ["thing", "least", "most"]) (by
      refine' K23.df_mk KX G ?a ?l ?c ?k (fun _ _ _ _ _ _ us hl => match us, hl with | [_, _, _], _ => rfl)
      (case a => k_is)
      (case l => k_is)
      (case c => k_is)
      (case k => k_is))
    have d_is_pair := K23.df_have KX (mg := mg) (x := "is_pair") (st := K23.s_is_pair) (ps := ["thing"]) (by
      refine' K23.df_mk KX G ?a ?l ?c ?k (fun _ _ _ _ _ _ us hl => match us, hl with | [_], _ => rfl)
      (case a => k_is)
      (case l => k_is)
      (case c => k_is)
      (case k => k_is))
    have d_are_ascending := K23.df_have KX (mg := mg) (x := "are_ascending") (st := K23.s_are_ascending) (ps := ["things"]) (by
      refine' K23.df_mk KX G ?a ?l ?c ?k (fun _ _ _ _ _ _ us hl => match us, hl with | [_], _ => rfl)
      (case a => k_is)
      (case l => k_is)
      (case c => k_is)
      (case k => k_is))
    have d_are_rising := K23.df_have KX (mg := mg) (x := "are_rising") (st := K23.s_are_rising) (ps := ["things"]) (by
      refine' K23.df_mk KX G ?a ?l ?c ?k (fun _ _ _ _ _ _ us hl => match us, hl with | [_], _ => rfl)
      (case a => k_is)
      (case l => k_is)
      (case c => k_is)
      (case k => k_is))
    have d_check_many := K23.df_have KX (mg := mg) (x := "check_many") (st := K23.s_check_many) (ps := ["number", "most"]) (by
      refine' K23.df_mk KX G ?a ?l ?c ?k (fun _ _ _ _ _ _ us hl => match us, hl with | [_, _], _ => rfl)
      (case a => k_is)
      (case l => k_is)
      (case c => k_is)
      (case k => k_is))
    have d_is_holder_of := K23.df_have KX (mg := mg) (x := "is_holder_of") (st := K23.s_is_holder_of) (ps := ["thing", "folk", "houses"]) (by
      refine' K23.df_mk KX G ?a ?l ?c ?k (fun _ _ _ _ _ _ us hl => match us, hl with | [_, _, _], _ => rfl)
      (case a => k_is)
      (case l => k_is)
      (case c => k_is)
      (case k => k_is))
    have d_are_shares := K23.df_have KX (mg := mg) (x := "are_shares") (st := K23.s_are_shares) (ps := ["thing", "folk", "houses"]) (by
      refine' K23.df_mk KX G ?a ?l ?c ?k (fun _ _ _ _ _ _ us hl => match us, hl with | [_, _, _], _ => rfl)
      (case a => k_is)
      (case l => k_is)
      (case c => k_is)
      (case k => k_is))
    have d_raw_web := K23.df_have KX (mg := mg) (x := "raw_web") (st := K23.s_raw_web) (ps := ["folk", "houses"]) (by
      refine' K23.df_mk KX G ?a ?l ?c ?k (fun _ _ _ _ _ _ us hl => match us, hl with | [_, _], _ => rfl)
      (case a => k_is)
      (case l => k_is)
      (case c => k_is)
      (case k => k_is))
    have d_is_house := K23.df_have KX (mg := mg) (x := "is_house") (st := K23.s_is_house) (ps := ["web", "thing"]) (by
      refine' K23.df_mk KX G ?a ?l ?c ?k (fun _ _ _ _ _ _ us hl => match us, hl with | [_, _], _ => rfl)
      (case a => k_is)
      (case l => k_is)
      (case c => k_is)
      (case k => k_is))
    have d_check_house := K23.df_have KX (mg := mg) (x := "check_house") (st := K23.s_check_house) (ps := ["web", "thing"]) (by
      refine' K23.df_mk KX G ?a ?l ?c ?k (fun _ _ _ _ _ _ us hl => match us, hl with | [_, _], _ => rfl)
      (case a => k_is)
      (case l => k_is)
      (case c => k_is)
      (case k => k_is))
    have d_is_lot := K23.df_have KX (mg := mg) (x := "is_lot") (st := K23.s_is_lot) (ps := ["folk", "thing"]) (by
      refine' K23.df_mk KX G ?a ?l ?c ?k (fun _ _ _ _ _ _ us hl => match us, hl with | [_, _], _ => rfl)
      (case a => k_is)
      (case l => k_is)
      (case c => k_is)
      (case k => k_is))
    have d_check_lot := K23.df_have KX (mg := mg) (x := "check_lot") (st := K23.s_check_lot) (ps := ["web", "thing"]) (by
      refine' K23.df_mk KX G ?a ?l ?c ?k (fun _ _ _ _ _ _ us hl => match us, hl with | [_, _], _ => rfl)
      (case a => k_is)
      (case l => k_is)
      (case c => k_is)
      (case k => k_is))
    have d_shares_with := K23.df_have KX (mg := mg) (x := "shares_with") (st := K23.s_shares_with) (ps := ["web", "house", "lot", "houses"]) (by
      refine' K23.df_mk KX G ?a ?l ?c ?k (fun _ _ _ _ _ _ us hl => match us, hl with | [_, _, _, _], _ => rfl)
      (case a => k_is)
      (case l => k_is)
      (case c => k_is)
      (case k => k_is))
    have d_has_half := K23.df_have KX (mg := mg) (x := "has_half") (st := K23.s_has_half) (ps := ["web", "house", "lot", "houses"]) (by
      refine' K23.df_mk KX G ?a ?l ?c ?k (fun _ _ _ _ _ _ us hl => match us, hl with | [_, _, _, _], _ => rfl)
      (case a => k_is)
      (case l => k_is)
      (case c => k_is)
      (case k => k_is))
    have d_carried_of := K23.df_have KX (mg := mg) (x := "carried_of") (st := K23.s_carried_of) (ps := ["web", "lot"]) (by
      refine' K23.df_mk KX G ?a ?l ?c ?k (fun _ _ _ _ _ _ us hl => match us, hl with | [_, _], _ => rfl)
      (case a => k_is)
      (case l => k_is)
      (case c => k_is)
      (case k => k_is))
    have d_check_lot_and_house := K23.df_have KX (mg := mg) (x := "check_lot_and_house") (st := K23.s_check_lot_and_house) (ps := ["web", "lot", "house"]) (by
      refine' K23.df_mk KX G ?a ?l ?c ?k (fun _ _ _ _ _ _ us hl => match us, hl with | [_, _, _], _ => rfl)
      (case a => k_is)
      (case l => k_is)
      (case c => k_is)
      (case k => k_is))
    have d_row := K23.df_have KX (mg := mg) (x := "row") (st := K23.s_row) (ps := ["web", "lot", "house"]) (by
      refine' K23.df_mk KX G ?a ?l ?c ?k (fun _ _ _ _ _ _ us hl => match us, hl with | [_, _, _], _ => rfl)
      (case a => k_is)
      (case l => k_is)
      (case c => k_is)
      (case k => k_is))
    have d_longer_rows := K23.df_have KX (mg := mg) (x := "longer_rows") (st := K23.s_longer_rows) (ps := ["web", "lot", "rows"]) (by
      refine' K23.df_mk KX G ?a ?l ?c ?k (fun _ _ _ _ _ _ us hl => match us, hl with | [_, _, _], _ => rfl)
      (case a => k_is)
      (case l => k_is)
      (case c => k_is)
      (case k => k_is))
    have d_shortest_row := K23.df_have KX (mg := mg) (x := "shortest_row") (st := K23.s_shortest_row) (ps := ["web", "lot", "house"]) (by
      refine' K23.df_mk KX G ?a ?l ?c ?k (fun _ _ _ _ _ _ us hl => match us, hl with | [_, _, _], _ => rfl)
      (case a => k_is)
      (case l => k_is)
      (case c => k_is)
      (case k => k_is))
    have d_shifted := K23.df_have KX (mg := mg) (x := "shifted") (st := K23.s_shifted) (ps := ["houses", "by"]) (by
      refine' K23.df_mk KX G ?a ?l ?c ?k (fun _ _ _ _ _ _ us hl => match us, hl with | [_, _], _ => rfl)
      (case a => k_is)
      (case l => k_is)
      (case c => k_is)
      (case k => k_is))
    have d_check_match := K23.df_have KX (mg := mg) (x := "check_match") (st := K23.s_check_match) (ps := ["one", "other"]) (by
      refine' K23.df_mk KX G ?a ?l ?c ?k (fun _ _ _ _ _ _ us hl => match us, hl with | [_, _], _ => rfl)
      (case a => k_is)
      (case l => k_is)
      (case c => k_is)
      (case k => k_is))
    have d_beside := K23.df_have KX (mg := mg) (x := "beside") (st := K23.s_beside) (ps := ["one", "other"]) (by
      refine' K23.df_mk KX G ?a ?l ?c ?k (fun _ _ _ _ _ _ us hl => match us, hl with | [_, _], _ => rfl)
      (case a => k_is)
      (case l => k_is)
      (case c => k_is)
      (case k => k_is))
    have d_law_pool := K23.df_have KX (mg := mg) (x := "_law_pool") (st := K23.s_law_pool) (ps := ["_law_script"]) (by
      refine' K23.df_mk KX G ?a ?l ?c ?k (fun _ _ _ _ _ _ us hl => match us, hl with | [_], _ => rfl)
      (case a => k_is)
      (case l => k_is)
      (case c => k_is)
      (case k => k_is))
    have d_law_draw := K23.df_have KX (mg := mg) (x := "_law_draw") (st := K23.s_law_draw) (ps := ["_law_pool_here", "_law_many"]) (by
      refine' K23.df_mk KX G ?a ?l ?c ?k (fun _ _ _ _ _ _ us hl => match us, hl with | [_, _], _ => rfl)
      (case a => k_is)
      (case l => k_is)
      (case c => k_is)
      (case k => k_is))
    have d_law_some := K23.df_have KX (mg := mg) (x := "_law_some") (st := K23.s_law_some) (ps := ["_law_pool_here", "_law_things"]) (by
      refine' K23.df_mk KX G ?a ?l ?c ?k (fun _ _ _ _ _ _ us hl => match us, hl with | [_, _], _ => rfl)
      (case a => k_is)
      (case l => k_is)
      (case c => k_is)
      (case k => k_is))
    have d_law_mixed := K23.df_have KX (mg := mg) (x := "_law_mixed") (st := K23.s_law_mixed) (ps := ["_law_pool_here", "_law_things"]) (by
      refine' K23.df_mk KX G ?a ?l ?c ?k (fun _ _ _ _ _ _ us hl => match us, hl with | [_, _], _ => rfl)
      (case a => k_is)
      (case l => k_is)
      (case c => k_is)
      (case k => k_is))
    have d_law_integer := K23.df_have KX (mg := mg) (x := "_law_integer") (st := K23.s_law_integer) (ps := ["_law_thing"]) (by
      refine' K23.df_mk KX G ?a ?l ?c ?k (fun _ _ _ _ _ _ us hl => match us, hl with | [_], _ => rfl)
      (case a => k_is)
      (case l => k_is)
      (case c => k_is)
      (case k => k_is))
    have d_law_same := K23.df_have KX (mg := mg) (x := "_law_same") (st := K23.s_law_same) (ps := ["_law_actual", "_law_expected"]) (by
      refine' K23.df_mk KX G ?a ?l ?c ?k (fun _ _ _ _ _ _ us hl => match us, hl with | [_, _], _ => rfl)
      (case a => k_is)
      (case l => k_is)
      (case c => k_is)
      (case k => k_is))
    have d_law_holder := K23.df_have KX (mg := mg) (x := "_law_holder") (st := K23.s_law_holder) (ps := ["_law_pool_here", "_law_folk", "_law_houses", "_law_lean"]) (by
      refine' K23.df_mk KX G ?a ?l ?c ?k (fun _ _ _ _ _ _ us hl => match us, hl with | [_, _, _, _], _ => rfl)
      (case a => k_is)
      (case l => k_is)
      (case c => k_is)
      (case k => k_is))
    have d_law_parts := K23.df_have KX (mg := mg) (x := "_law_parts") (st := K23.s_law_parts) (ps := ["_law_pool_here", "_law_least"]) (by
      refine' K23.df_mk KX G ?a ?l ?c ?k (fun _ _ _ _ _ _ us hl => match us, hl with | [_, _], _ => rfl)
      (case a => k_is)
      (case l => k_is)
      (case c => k_is)
      (case k => k_is))
    have d_law_has_half := K23.df_have KX (mg := mg) (x := "_law_has_half") (st := K23.s_law_has_half) (ps := ["_law_parts_here", "_law_house", "_law_lot_here", "_law_houses"]) (by
      refine' K23.df_mk KX G ?a ?l ?c ?k (fun _ _ _ _ _ _ us hl => match us, hl with | [_, _, _, _], _ => rfl)
      (case a => k_is)
      (case l => k_is)
      (case c => k_is)
      (case k => k_is))
    have d_law_layers := K23.df_have KX (mg := mg) (x := "_law_layers") (st := K23.s_law_layers) (ps := ["_law_parts_here", "_law_lot_here"]) (by
      refine' K23.df_mk KX G ?a ?l ?c ?k (fun _ _ _ _ _ _ us hl => match us, hl with | [_, _], _ => rfl)
      (case a => k_is)
      (case l => k_is)
      (case c => k_is)
      (case k => k_is))
    have d_law_lot := K23.df_have KX (mg := mg) (x := "_law_lot") (st := K23.s_law_lot) (ps := ["_law_pool_here", "_law_folk"]) (by
      refine' K23.df_mk KX G ?a ?l ?c ?k (fun _ _ _ _ _ _ us hl => match us, hl with | [_, _], _ => rfl)
      (case a => k_is)
      (case l => k_is)
      (case c => k_is)
      (case k => k_is))
    have d_law_row_fault := K23.df_have KX (mg := mg) (x := "_law_row_fault") (st := K23.s_law_row_fault) (ps := ["_law_parts_here", "_law_lot_here", "_law_house", "_law_thing"]) (by
      refine' K23.df_mk KX G ?a ?l ?c ?k (fun _ _ _ _ _ _ us hl => match us, hl with | [_, _, _, _], _ => rfl)
      (case a => k_is)
      (case l => k_is)
      (case c => k_is)
      (case k => k_is))
    have d_law_carried := K23.df_have KX (mg := mg) (x := "_law_carried") (st := K23.s_law_carried) (ps := ["_law_parts_here", "_law_lot_here"]) (by
      refine' K23.df_mk KX G ?a ?l ?c ?k (fun _ _ _ _ _ _ us hl => match us, hl with | [_, _], _ => rfl)
      (case a => k_is)
      (case l => k_is)
      (case c => k_is)
      (case k => k_is))
    have d_law_least_row := K23.df_have KX (mg := mg) (x := "_law_least_row") (st := K23.s_law_least_row) (ps := ["_law_parts_here", "_law_lot_here", "_law_house"]) (by
      refine' K23.df_mk KX G ?a ?l ?c ?k (fun _ _ _ _ _ _ us hl => match us, hl with | [_, _, _], _ => rfl)
      (case a => k_is)
      (case l => k_is)
      (case c => k_is)
      (case k => k_is))
    have d_law_least_by_lots := K23.df_have KX (mg := mg) (x := "_law_least_by_lots") (st := K23.s_law_least_by_lots) (ps := ["_law_parts_here", "_law_lot_here", "_law_house"]) (by
      refine' K23.df_mk KX G ?a ?l ?c ?k (fun _ _ _ _ _ _ us hl => match us, hl with | [_, _, _], _ => rfl)
      (case a => k_is)
      (case l => k_is)
      (case c => k_is)
      (case k => k_is))
    have d_law_depth := K23.df_have KX (mg := mg) (x := "_law_depth") (st := K23.s_law_depth) (ps := ["_law_parts_here", "_law_lot_here", "_law_house"]) (by
      refine' K23.df_mk KX G ?a ?l ?c ?k (fun _ _ _ _ _ _ us hl => match us, hl with | [_, _, _], _ => rfl)
      (case a => k_is)
      (case l => k_is)
      (case c => k_is)
      (case k => k_is))
    have d_law_great_right := K23.df_have KX (mg := mg) (x := "_law_great_right") (st := K23.s_law_great_right) (ps := ["_law_parts_here", "_law_web", "_law_lot_here", "_law_house"]) (by
      refine' K23.df_mk KX G ?a ?l ?c ?k (fun _ _ _ _ _ _ us hl => match us, hl with | [_, _, _, _], _ => rfl)
      (case a => k_is)
      (case l => k_is)
      (case c => k_is)
      (case k => k_is))
    have d_law_deep_parts := K23.df_have KX (mg := mg) (x := "_law_deep_parts") (st := K23.s_law_deep_parts) (ps := ["_law_pool_here"]) (by
      refine' K23.df_mk KX G ?a ?l ?c ?k (fun _ _ _ _ _ _ us hl => match us, hl with | [_], _ => rfl)
      (case a => k_is)
      (case l => k_is)
      (case c => k_is)
      (case k => k_is))
    have d_law_chain_right := K23.df_have KX (mg := mg) (x := "_law_chain_right") (st := K23.s_law_chain_right) (ps := ["_law_pool_here"]) (by
      refine' K23.df_mk KX G ?a ?l ?c ?k (fun _ _ _ _ _ _ us hl => match us, hl with | [_], _ => rfl)
      (case a => k_is)
      (case l => k_is)
      (case c => k_is)
      (case k => k_is))
    have d_law_too_many := K23.df_have KX (mg := mg) (x := "_law_too_many") (st := K23.s_law_too_many) (ps := ["_law_parts_here", "_law_web", "_law_lot_here"]) (by
      refine' K23.df_mk KX G ?a ?l ?c ?k (fun _ _ _ _ _ _ us hl => match us, hl with | [_, _, _], _ => rfl)
      (case a => k_is)
      (case l => k_is)
      (case c => k_is)
      (case k => k_is))
    have web := K23.web_have KX (mg := mg) (by
      refine' K23.web_mk KX G ?aC ?mk ?kc ?pg ?hd ?po ?sa ?a1 ?i1 ?l1 ?c1 ?k1 ?a2 ?i2 ?l2 ?c2 ?k2 ?n1 ?n2 ?n3 ?n4 ?n5 ?aR ?mkR ?kcR ?pgR ?hdR ?poR ?saR ?r1 ?ri1 ?rl1 ?rc1 ?rk1 ?r2 ?m1 ?m2 ?m3 ?m4 ?m5
      (case aC => k_is)
      (case mk => k_is)
      (case kc => k_is)
      (case pg => k_is)
      (case hd => k_is)
      (case po => k_is)
      (case sa => k_is)
      (case a1 => k_is)
      (case i1 => k_is)
      (case l1 => k_is)
      (case c1 => k_is)
      (case k1 => k_is)
      (case a2 => k_is)
      (case i2 => k_is)
      (case l2 => k_is)
      (case c2 => k_is)
      (case k2 => k_is)
      (case n1 => k_is)
      (case n2 => k_is)
      (case n3 => k_is)
      (case n4 => k_is)
      (case n5 => k_is)
      (case aR => k_is)
      (case mkR => k_is)
      (case kcR => k_is)
      (case pgR => k_is)
      (case hdR => k_is)
      (case poR => k_is)
      (case saR => k_is)
      (case r1 => k_is)
      (case ri1 => k_is)
      (case rl1 => k_is)
      (case rc1 => k_is)
      (case rk1 => k_is)
      (case r2 => k_is)
      (case m1 => k_is)
      (case m2 => k_is)
      (case m3 => k_is)
      (case m4 => k_is)
      (case m5 => k_is))
    have tm := K23.tm_have KX (mg := mg) (P := PySem.Challenge.rw_roundowned_k23_whole_shortest_rows.prog) (by
      refine' K23.tm_mk KX G ?aC ?cls ?ref ?sa ?exC ?tyC ?kC ?ga ?gg ?hdC ?iC ?tC ?lI ?cI ?noN ?te ?cell ?any ?code ?cv ?cf ?supr ?top ?sub1 ?subVE ?sup
      (case aC => first | k_is | rfl | decide +kernel)
      (case cls => first | k_is | rfl | decide +kernel)
      (case ref => first | k_is | rfl | decide +kernel)
      (case sa => first | k_is | rfl | decide +kernel)
      (case exC => first | k_is | rfl | decide +kernel)
      (case tyC => first | k_is | rfl | decide +kernel)
      (case kC => first | k_is | rfl | decide +kernel)
      (case ga => first | k_is | rfl | decide +kernel)
      (case gg => first | k_is | rfl | decide +kernel)
      (case hdC => first | k_is | rfl | decide +kernel)
      (case iC => first | k_is | rfl | decide +kernel)
      (case tC => first | k_is | rfl | decide +kernel)
      (case lI => first | k_is | rfl | decide +kernel)
      (case cI => first | k_is | rfl | decide +kernel)
      (case noN => first | k_is | rfl | decide +kernel)
      (case te => first | k_is | rfl | decide +kernel)
      (case cell => first | k_is | rfl | decide +kernel)
      (case any => first | k_is | rfl | decide +kernel)
      (case code => first | k_is | rfl | decide +kernel)
      (case cv => first | k_is | rfl | decide +kernel)
      (case cf => first | k_is | rfl | decide +kernel)
      (case supr => first | k_is | rfl | decide +kernel)
      (case top => first | k_is | rfl | decide +kernel)
      (case sub1 => first | k_is | rfl | decide +kernel)
      (case subVE => first | k_is | rfl | decide +kernel)
      (case sup => first | k_is | rfl | decide +kernel))
    refine' K23.all_mk KX G hmg ⟨T, d_is_integer, d_is_within, d_is_pair, d_are_ascending, d_are_rising, d_check_many, d_is_holder_of, d_are_shares, d_raw_web, d_is_house, d_check_house, d_is_lot, d_check_lot, d_shares_with, d_has_half, d_carried_of, d_check_lot_and_house, d_row, d_longer_rows, d_shortest_row, d_shifted, d_check_match, d_beside, d_law_pool, d_law_draw, d_law_some, d_law_mixed, d_law_integer, d_law_same, d_law_holder, d_law_parts, d_law_has_half, d_law_layers, d_law_lot, d_law_row_fault, d_law_carried, d_law_least_row, d_law_least_by_lots, d_law_depth, d_law_great_right, d_law_deep_parts, d_law_chain_right, d_law_too_many, web, tm⟩ ?aL ?lL ?cL ?kL
    (case aL => k_is)
    (case lL => k_is)
    (case cL => k_is)
    (case kL => k_is)
