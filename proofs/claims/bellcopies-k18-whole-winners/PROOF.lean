import PyProof.Rows.All
import Wide.All
import OpenK.AllK
import Wide.FinOn
import HandS.ForMost
import HandS.AnyAll
import HandS.GenOver
import HandS.GenList
import PyProof.GenQ
import PyProof.ConsumeS
import HandS.Conv
import HandS.More
import KE.SortData
import KE.KDictSum
import KE.GoesEnum
import HandS.Walk
import HandS.TupMul
import HandS.TupAny
import HandS.IsInst
import HandS.Deep
import HandS.TupLen
import HandS.Wide
import HandS.DictComp
import HandS.Star
import HandS.EndTab
import HandS.EndOwn
import HandS.Flow
import KE.KNest
import KE.KNestM
import PySem.Challenge.RW_bellcopies_k18_whole_winners
set_option Elab.async false
set_option linter.all false
set_option maxHeartbeats 1000000
namespace BM
open List
abbrev Arcs := List (Nat × Nat)

/-! ### people -/
def people (n : Nat) : List Nat := (List.range n).map (· + 1)
theorem mem_people {n x : Nat} : x ∈ people n ↔ 1 ≤ x ∧ x ≤ n := by
  unfold people
  rw [List.mem_map]
  constructor
  · rintro ⟨y, hy, rfl⟩
    have := List.mem_range.mp hy
    omega
  · rintro ⟨h1, h2⟩
    exact ⟨x - 1, List.mem_range.mpr (by omega), by omega⟩
theorem people_nodup (n : Nat) : (people n).Nodup := by
  unfold people List.Nodup
  rw [List.pairwise_map]
  exact (List.nodup_range (n := n)).imp fun h e => h (by omega)
theorem people_len (n : Nat) : (people n).length = n := by simp [people]
theorem people_at {n i : Nat} (h : i < n) : (people n)[i]? = some (i + 1) := by
  simp [people, h]
theorem len_le {n : Nat} {l : List Nat} (hd : l.Nodup) (h : ∀ x ∈ l, x ∈ people n) : l.length ≤ n := by
  have := hd.length_le_of_subset (l₂ := people n) fun x hx => h x hx
  rwa [people_len] at this
theorem all_in {n : Nat} {l : List Nat} (hd : l.Nodup) (h : ∀ x ∈ l, x ∈ people n) (hl : n ≤ l.length) : ∀ x ∈ people n, x ∈ l := by
  intro x hx
  by_cases hm : x ∈ l
  · exact hm
  · exfalso
    have h2 : (x :: l).Nodup := List.nodup_cons.mpr ⟨hm, hd⟩
    have h3 := len_le h2 (n := n) fun y hy => by
      rcases List.mem_cons.mp hy with e | e
      · rw [e]; exact hx
      · exact h y e
    rw [List.length_cons] at h3
    omega

/-! ### webs -/
structure Web (n : Nat) (arcs : Arcs) : Prop where
  n1 : 1 ≤ n
  n6 : n ≤ 6
  len : arcs.length ≤ 10
  src : ∀ a ∈ arcs, 1 ≤ a.1 ∧ a.1 ≤ n
  dst : ∀ a ∈ arcs, 1 ≤ a.2 ∧ a.2 ≤ n
  ne : ∀ a ∈ arcs, a.1 ≠ a.2
  nd : arcs.Nodup
theorem Web.srcP {n : Nat} {arcs : Arcs} (w : Web n arcs) {a : Nat × Nat} (h : a ∈ arcs) : a.1 ∈ people n := mem_people.mpr (w.src a h)
theorem Web.dstP {n : Nat} {arcs : Arcs} (w : Web n arcs) {a : Nat × Nat} (h : a ∈ arcs) : a.2 ∈ people n := mem_people.mpr (w.dst a h)

inductive Reach (arcs : Arcs) (p : Nat) : Nat → Prop
  | refl : Reach arcs p p
  | step {x y : Nat} : Reach arcs p x → (x, y) ∈ arcs → Reach arcs p y
theorem Reach.trans {arcs : Arcs} {p q r : Nat} (h : Reach arcs p q) (k : Reach arcs q r) : Reach arcs p r := by
  induction k with
  | refl => exact h
  | step _ e ih => exact .step ih e
theorem Reach.head {arcs : Arcs} {p q r : Nat} (h : (p, q) ∈ arcs) (k : Reach arcs q r) : Reach arcs p r := (Reach.step .refl h).trans k
theorem Reach.people {n : Nat} {arcs : Arcs} (w : Web n arcs) {p q : Nat} (hp : p ∈ people n) (h : Reach arcs p q) : q ∈ BM.people n := by
  cases h with
  | refl => exact hp
  | step _ e => exact w.dstP e
/-- a set that arcs do not leave holds all that can be reached -/
theorem Reach.inside {arcs : Arcs} {S : List Nat} (h : ∀ x y, (x, y) ∈ arcs → x ∈ S → y ∈ S) {p q : Nat} (hp : p ∈ S) (r : Reach arcs p q) : q ∈ S := by
  induction r with
  | refl => exact hp
  | step _ e ih => exact h _ _ e ih
/-- a set that arcs do not enter holds all from whom it can be reached -/
theorem Reach.before {arcs : Arcs} {S : List Nat} (h : ∀ x y, (x, y) ∈ arcs → y ∈ S → x ∈ S) {p q : Nat} (r : Reach arcs p q) : q ∈ S → p ∈ S := by
  induction r with
  | refl => exact id
  | step _ e ih => exact fun hq => ih (h _ _ e hq)
open Classical in
noncomputable def heard (n : Nat) (arcs : Arcs) (p : Nat) : List Nat := (people n).filter fun x => decide (Reach arcs p x)
theorem mem_heard {n : Nat} {arcs : Arcs} {p x : Nat} : x ∈ heard n arcs p ↔ x ∈ people n ∧ Reach arcs p x := by simp [heard, List.mem_filter]
theorem heard_nodup (n : Nat) (arcs : Arcs) (p : Nat) : (heard n arcs p).Nodup := (people_nodup n).filter _
theorem heard_len_le (n : Nat) (arcs : Arcs) (p : Nat) : (heard n arcs p).length ≤ n := len_le (heard_nodup n arcs p) fun _ hx => (mem_heard.mp hx).1

/-! ### the search by rows -/
def bstep (rows : List Nat) (st : List Nat × List Nat) (a : Nat × Nat) : List Nat × List Nat :=
  if a.1 ∈ rows ∧ a.2 ∉ st.1 then (st.1 ++ [a.2], st.2 ++ [a.2]) else st
def bfold (rows seen : List Nat) (pre : Arcs) : List Nat × List Nat := pre.foldl (bstep rows) (seen, [])
theorem bfold_nil (rows seen : List Nat) : bfold rows seen [] = (seen, []) := rfl
theorem bfold_snoc (rows seen : List Nat) (pre : Arcs) (a : Nat × Nat) : bfold rows seen (pre ++ [a]) = bstep rows (bfold rows seen pre) a := by
  unfold bfold
  rw [List.foldl_append]
  rfl
theorem bstep_yes {rows : List Nat} {st : List Nat × List Nat} {a : Nat × Nat} (h : a.1 ∈ rows) (k : a.2 ∉ st.1) : bstep rows st a = (st.1 ++ [a.2], st.2 ++ [a.2]) := if_pos ⟨h, k⟩
theorem bstep_no {rows : List Nat} {st : List Nat × List Nat} {a : Nat × Nat} (h : ¬ (a.1 ∈ rows ∧ a.2 ∉ st.1)) : bstep rows st a = st := if_neg h
structure BInv (n : Nat) (arcs : Arcs) (p : Nat) (seen rows : List Nat) : Prop where
  nd : seen.Nodup
  has : p ∈ seen
  ppl : ∀ x ∈ seen, x ∈ people n
  rch : ∀ x ∈ seen, Reach arcs p x
  sub : ∀ x ∈ rows, x ∈ seen
  done : ∀ x ∈ seen, x ∉ rows → ∀ y, (x, y) ∈ arcs → y ∈ seen
theorem BInv.start {n : Nat} {arcs : Arcs} {p : Nat} (hp : p ∈ people n) : BInv n arcs p [p] [p] where
  nd := by simp
  has := by simp
  ppl := by simpa using hp
  rch := fun x hx => by rw [List.mem_singleton.mp hx]; exact .refl
  sub := fun _ h => h
  done := fun x hx hn => absurd hx hn
structure FInv (n : Nat) (arcs : Arcs) (p : Nat) (seen rows : List Nat) (pre : Arcs) (st : List Nat × List Nat) : Prop where
  eq : st.1 = seen ++ st.2
  nd : st.1.Nodup
  ppl : ∀ x ∈ st.1, x ∈ people n
  rch : ∀ x ∈ st.1, Reach arcs p x
  got : ∀ x y, (x, y) ∈ pre → x ∈ rows → y ∈ st.1
theorem finv_fold {n : Nat} {arcs : Arcs} (w : Web n arcs) {p : Nat} {seen rows : List Nat} (b : BInv n arcs p seen rows) : ∀ (pre : Arcs), (∀ a ∈ pre, a ∈ arcs) → FInv n arcs p seen rows pre (bfold rows seen pre) := by
  intro pre
  suffices h : ∀ (l : Arcs), (∀ a ∈ l.reverse, a ∈ arcs) → FInv n arcs p seen rows l.reverse (bfold rows seen l.reverse) by
    intro hp
    have := h pre.reverse (by simpa using hp)
    simpa using this
  intro l
  induction l with
  | nil =>
    intro _
    exact ⟨by simp [bfold], b.nd, b.ppl, b.rch, by simp⟩
  | cons a r ih =>
    intro hall
    rw [List.reverse_cons] at hall ⊢
    have f := ih fun x hx => hall x (List.mem_append_left _ hx)
    have ha : a ∈ arcs := hall a (List.mem_append_right _ (List.mem_singleton.mpr rfl))
    rw [bfold_snoc]
    generalize bfold rows seen r.reverse = st at f ⊢
    by_cases c : a.1 ∈ rows ∧ a.2 ∉ st.1
    · rw [bstep_yes c.1 c.2]
      refine ⟨by show st.1 ++ [a.2] = seen ++ (st.2 ++ [a.2]); rw [f.eq, List.append_assoc], ?_, fun x hx => ?_, fun x hx => ?_, fun x y hxy hx => ?_⟩
      · show (st.1 ++ [a.2]).Nodup
        rw [List.nodup_append]
        refine ⟨f.nd, by simp, fun x hx y hy e => ?_⟩
        rw [List.mem_singleton.mp hy] at e
        exact c.2 (e ▸ hx)
      · have hx : x ∈ st.1 ++ [a.2] := hx
        rcases List.mem_append.mp hx with z | z
        · exact f.ppl x z
        · rw [List.mem_singleton.mp z]; exact w.dstP ha
      · have hx : x ∈ st.1 ++ [a.2] := hx
        rcases List.mem_append.mp hx with z | z
        · exact f.rch x z
        · rw [List.mem_singleton.mp z]
          have hs : a.1 ∈ st.1 := by rw [f.eq]; exact List.mem_append_left _ (b.sub _ c.1)
          exact .step (f.rch _ hs) (show (a.1, a.2) ∈ arcs from ha)
      · show y ∈ st.1 ++ [a.2]
        rcases List.mem_append.mp hxy with z | z
        · exact List.mem_append_left _ (f.got x y z hx)
        · have e := List.mem_singleton.mp z
          exact List.mem_append_right _ (List.mem_singleton.mpr (by rw [← e]))
    · rw [bstep_no c]
      refine ⟨f.eq, f.nd, f.ppl, f.rch, fun x y hxy hx => ?_⟩
      rcases List.mem_append.mp hxy with z | z
      · exact f.got x y z hx
      · have e := List.mem_singleton.mp z
        have e1 : a.1 = x := by rw [← e]
        have e2 : a.2 = y := by rw [← e]
        refine Classical.byContradiction fun hn => c ⟨by rw [e1]; exact hx, by rw [e2]; exact hn⟩
theorem BInv.turn {n : Nat} {arcs : Arcs} (w : Web n arcs) {p : Nat} {seen rows : List Nat} (b : BInv n arcs p seen rows) : BInv n arcs p (bfold rows seen arcs).1 (bfold rows seen arcs).2 := by
  have f := finv_fold w b arcs fun _ h => h
  generalize bfold rows seen arcs = st at f ⊢
  refine ⟨f.nd, by rw [f.eq]; exact List.mem_append_left _ b.has, f.ppl, f.rch, fun x hx => by rw [f.eq]; exact List.mem_append_right _ hx, fun x hx hn y hxy => ?_⟩
  rw [f.eq] at hx
  rcases List.mem_append.mp hx with z | z
  · by_cases hr : x ∈ rows
    · exact f.got x y hxy hr
    · rw [f.eq]; exact List.mem_append_left _ (b.done x z hr y hxy)
  · exact absurd z hn
def bmeas (n : Nat) (seen rows : List Nat) : Nat := (n - seen.length) + (if rows = [] then 0 else 1)
theorem bmeas_lt {n : Nat} {arcs : Arcs} (w : Web n arcs) {p : Nat} {seen rows : List Nat} (b : BInv n arcs p seen rows) (hr : rows ≠ []) : bmeas n (bfold rows seen arcs).1 (bfold rows seen arcs).2 < bmeas n seen rows := by
  have f := finv_fold w b arcs fun _ h => h
  generalize bfold rows seen arcs = st at f ⊢
  have l1 : st.1.length = seen.length + st.2.length := by rw [f.eq, List.length_append]
  have l2 := len_le f.nd f.ppl
  unfold bmeas
  rw [if_neg hr]
  by_cases e : st.2 = []
  · rw [if_pos e, l1, e]; simp
  · rw [if_neg e]
    have : st.2.length ≠ 0 := fun z => e (List.length_eq_zero_iff.mp z)
    omega
theorem BInv.perm {n : Nat} {arcs : Arcs} {p : Nat} {seen : List Nat} (b : BInv n arcs p seen []) : seen.Perm (heard n arcs p) := by
  rw [List.perm_ext_iff_of_nodup b.nd (heard_nodup ..)]
  intro x
  rw [mem_heard]
  constructor
  · exact fun h => ⟨b.ppl x h, b.rch x h⟩
  · rintro ⟨_, h⟩
    exact h.inside (fun x y e hx => b.done x hx (by simp) y e) b.has

/-! ### the search by rounds -/
def lstep (found : List Nat) (a : Nat × Nat) : List Nat := if a.1 ∈ found ∧ a.2 ∉ found then found ++ [a.2] else found
def lfold (found : List Nat) (pre : Arcs) : List Nat := pre.foldl lstep found
theorem lfold_snoc (found : List Nat) (pre : Arcs) (a : Nat × Nat) : lfold found (pre ++ [a]) = lstep (lfold found pre) a := by
  unfold lfold
  rw [List.foldl_append]
  rfl
theorem lstep_yes {found : List Nat} {a : Nat × Nat} (h : a.1 ∈ found) (k : a.2 ∉ found) : lstep found a = found ++ [a.2] := if_pos ⟨h, k⟩
theorem lstep_no {found : List Nat} {a : Nat × Nat} (h : ¬ (a.1 ∈ found ∧ a.2 ∉ found)) : lstep found a = found := if_neg h
def lrounds (arcs : Arcs) (p : Nat) : Nat → List Nat
  | 0 => [p]
  | t + 1 => lfold (lrounds arcs p t) arcs
structure LInv (n : Nat) (arcs : Arcs) (p : Nat) (found : List Nat) : Prop where
  nd : found.Nodup
  has : p ∈ found
  ppl : ∀ x ∈ found, x ∈ people n
  rch : ∀ x ∈ found, Reach arcs p x
theorem LInv.start {n : Nat} {arcs : Arcs} {p : Nat} (hp : p ∈ people n) : LInv n arcs p [p] where
  nd := by simp
  has := by simp
  ppl := by simpa using hp
  rch := fun x hx => by rw [List.mem_singleton.mp hx]; exact .refl
theorem LInv.step {n : Nat} {arcs : Arcs} (w : Web n arcs) {p : Nat} {found : List Nat} (l : LInv n arcs p found) {a : Nat × Nat} (ha : a ∈ arcs) : LInv n arcs p (lstep found a) := by
  by_cases c : a.1 ∈ found ∧ a.2 ∉ found
  · rw [lstep_yes c.1 c.2]
    refine ⟨?_, List.mem_append_left _ l.has, fun x hx => ?_, fun x hx => ?_⟩
    · rw [List.nodup_append]
      refine ⟨l.nd, by simp, fun x hx y hy e => ?_⟩
      rw [List.mem_singleton.mp hy] at e
      exact c.2 (e ▸ hx)
    · rcases List.mem_append.mp hx with z | z
      · exact l.ppl x z
      · rw [List.mem_singleton.mp z]; exact w.dstP ha
    · rcases List.mem_append.mp hx with z | z
      · exact l.rch x z
      · rw [List.mem_singleton.mp z]
        exact .step (l.rch _ c.1) (show (a.1, a.2) ∈ arcs from ha)
  · rw [lstep_no c]; exact l
theorem lstep_mono {found : List Nat} {a : Nat × Nat} : ∃ r, lstep found a = found ++ r := by
  by_cases c : a.1 ∈ found ∧ a.2 ∉ found
  · exact ⟨_, lstep_yes c.1 c.2⟩
  · exact ⟨[], by rw [lstep_no c, List.append_nil]⟩
theorem lfold_mono : ∀ (pre : Arcs) (found : List Nat), ∃ r, lfold found pre = found ++ r
  | [], found => ⟨[], by simp [lfold]⟩
  | a :: pre, found => by
    obtain ⟨r, h⟩ := lstep_mono (found := found) (a := a)
    obtain ⟨r2, h2⟩ := lfold_mono pre (lstep found a)
    refine ⟨r ++ r2, ?_⟩
    show lfold (lstep found a) pre = _
    rw [h2, h, List.append_assoc]
theorem LInv.fold {n : Nat} {arcs : Arcs} (w : Web n arcs) {p : Nat} : ∀ (pre : Arcs) {found : List Nat}, (∀ a ∈ pre, a ∈ arcs) → LInv n arcs p found → LInv n arcs p (lfold found pre)
  | [], _, _, l => l
  | a :: pre, found, h, l => LInv.fold w pre (found := lstep found a) (fun x hx => h x (List.mem_cons_of_mem _ hx)) (l.step w (h a List.mem_cons_self))
theorem lfold_got : ∀ (pre : Arcs) (found : List Nat) (x y : Nat), (x, y) ∈ pre → x ∈ found → y ∈ lfold found pre
  | a :: pre, found, x, y, h, hx => by
    obtain ⟨r, hr⟩ := lstep_mono (found := found) (a := a)
    show y ∈ lfold (lstep found a) pre
    rcases List.mem_cons.mp h with e | e
    · obtain ⟨r2, h2⟩ := lfold_mono pre (lstep found a)
      rw [h2]
      refine List.mem_append_left _ ?_
      by_cases c : a.1 ∈ found ∧ a.2 ∉ found
      · rw [lstep_yes c.1 c.2]
        exact List.mem_append_right _ (List.mem_singleton.mpr (by rw [← e]))
      · rw [lstep_no c]
        exact Classical.byContradiction fun hn => c ⟨by rw [← e]; exact hx, by rw [← e]; exact hn⟩
    · exact lfold_got pre _ x y e (by rw [hr]; exact List.mem_append_left _ hx)
theorem lfold_closed : ∀ (pre : Arcs) (found : List Nat), (∀ x y, (x, y) ∈ pre → x ∈ found → y ∈ found) → lfold found pre = found
  | [], _, _ => rfl
  | a :: pre, found, h => by
    show lfold (lstep found a) pre = found
    rw [lstep_no fun c => c.2 (h a.1 a.2 List.mem_cons_self c.1)]
    exact lfold_closed pre found fun x y e => h x y (List.mem_cons_of_mem _ e)
theorem LInv.rounds {n : Nat} {arcs : Arcs} (w : Web n arcs) {p : Nat} (hp : p ∈ people n) : ∀ t, LInv n arcs p (lrounds arcs p t)
  | 0 => .start hp
  | t + 1 => (LInv.rounds w hp t).fold w arcs fun _ h => h
theorem lrounds_grow (arcs : Arcs) (p : Nat) : ∀ t, (∀ x y, (x, y) ∈ arcs → x ∈ lrounds arcs p t → y ∈ lrounds arcs p t) ∨ t + 1 ≤ (lrounds arcs p t).length
  | 0 => .inr (by simp [lrounds])
  | t + 1 => by
    rcases lrounds_grow arcs p t with h | h
    · left
      show ∀ x y, (x, y) ∈ arcs → x ∈ lfold (lrounds arcs p t) arcs → y ∈ lfold (lrounds arcs p t) arcs
      rw [lfold_closed arcs _ h]
      exact h
    · obtain ⟨r, hr⟩ := lfold_mono arcs (lrounds arcs p t)
      cases r with
      | nil =>
        left
        intro x y e hx
        show y ∈ lfold (lrounds arcs p t) arcs
        have hx : x ∈ lfold (lrounds arcs p t) arcs := hx
        rw [hr, List.append_nil] at hx
        exact lfold_got arcs _ x y e hx
      | cons z r =>
        right
        show t + 1 + 1 ≤ (lfold (lrounds arcs p t) arcs).length
        rw [hr, List.length_append, List.length_cons]
        omega
theorem lrounds_perm {n : Nat} {arcs : Arcs} (w : Web n arcs) {p : Nat} (hp : p ∈ people n) : (lrounds arcs p n).Perm (heard n arcs p) := by
  have l := LInv.rounds w hp n
  rw [List.perm_ext_iff_of_nodup l.nd (heard_nodup ..)]
  intro x
  rw [mem_heard]
  constructor
  · exact fun h => ⟨l.ppl x h, l.rch x h⟩
  · rintro ⟨_, h⟩
    rcases lrounds_grow arcs p n with g | g
    · exact h.inside g l.has
    · have := len_le l.nd l.ppl
      omega
end BM
set_option maxHeartbeats 1000000
namespace BM
open List

/-! ### winners -/
noncomputable def winners (n : Nat) (arcs : Arcs) : List Nat := (people n).filter fun p => (heard n arcs p).length == n
theorem mem_winners {n : Nat} {arcs : Arcs} {p : Nat} : p ∈ winners n arcs ↔ p ∈ people n ∧ (heard n arcs p).length = n := by simp [winners, List.mem_filter]
theorem winner_all {n : Nat} {arcs : Arcs} {p : Nat} (h : p ∈ winners n arcs) : ∀ x ∈ people n, Reach arcs p x := by
  intro x hx
  have hl := (mem_winners.mp h).2
  exact (mem_heard.mp (all_in (heard_nodup n arcs p) (fun y hy => (mem_heard.mp hy).1) (by omega) x hx)).2

/-! ### the greedy log -/
def sel (arcs : Arcs) (seen : List Nat) (k : Nat) : Bool := match arcs[k]? with
  | some a => decide (a.1 ∈ seen) && !decide (a.2 ∈ seen)
  | none => false
theorem sel_at {arcs : Arcs} {seen : List Nat} {k : Nat} {a : Nat × Nat} (h : arcs[k]? = some a) : sel arcs seen k = (decide (a.1 ∈ seen) && !decide (a.2 ∈ seen)) := by
  unfold sel
  rw [h]
def pick (arcs : Arcs) (seen : List Nat) : List Nat := (List.range arcs.length).filter (sel arcs seen)
def pickTo (arcs : Arcs) (seen : List Nat) (i : Nat) : List Nat := (List.range i).filter (sel arcs seen)
theorem pickTo_succ (arcs : Arcs) (seen : List Nat) (i : Nat) : pickTo arcs seen (i + 1) = pickTo arcs seen i ++ (if sel arcs seen i = true then [i] else []) := by
  unfold pickTo
  rw [List.range_succ, List.filter_append]
  congr 1
  by_cases h : sel arcs seen i = true
  · simp [h]
  · simp [h]
theorem pickTo_len (arcs : Arcs) (seen : List Nat) (i : Nat) : (pickTo arcs seen i).length ≤ i := by
  unfold pickTo
  exact Nat.le_trans (List.length_filter_le ..) (by simp)
def goalAt (arcs : Arcs) (k : Nat) : Nat := (arcs.getD k (0, 0)).2
def srcAt (arcs : Arcs) (k : Nat) : Nat := (arcs.getD k (0, 0)).1
theorem goalAt_of {arcs : Arcs} {k : Nat} {a : Nat × Nat} (h : arcs[k]? = some a) : goalAt arcs k = a.2 := by
  unfold goalAt
  rw [List.getD_eq_getElem?_getD, h]
  rfl
theorem srcAt_of {arcs : Arcs} {k : Nat} {a : Nat × Nat} (h : arcs[k]? = some a) : srcAt arcs k = a.1 := by
  unfold srcAt
  rw [List.getD_eq_getElem?_getD, h]
  rfl
def gnext (arcs : Arcs) (seen : List Nat) : Nat := (pick arcs seen).headD 0
def gseen (arcs : Arcs) (p : Nat) : Nat → List Nat
  | 0 => [p]
  | t + 1 => gseen arcs p t ++ [goalAt arcs (gnext arcs (gseen arcs p t))]
def gfound (arcs : Arcs) (p : Nat) : Nat → List Nat
  | 0 => []
  | t + 1 => gfound arcs p t ++ [gnext arcs (gseen arcs p t)]
theorem gseen_len (arcs : Arcs) (p : Nat) : ∀ t, (gseen arcs p t).length = t + 1
  | 0 => rfl
  | t + 1 => by
    show (gseen arcs p t ++ [_]).length = _
    rw [List.length_append, gseen_len arcs p t]
    rfl
theorem gfound_len (arcs : Arcs) (p : Nat) : ∀ t, (gfound arcs p t).length = t
  | 0 => rfl
  | t + 1 => by
    show (gfound arcs p t ++ [_]).length = _
    rw [List.length_append, gfound_len arcs p t]
    rfl
theorem gfound_at (arcs : Arcs) (p : Nat) : ∀ t i, i < t → (gfound arcs p t)[i]? = some (gnext arcs (gseen arcs p i))
  | t + 1, i, h => by
    show (gfound arcs p t ++ [_])[i]? = _
    by_cases e : i < t
    · rw [List.getElem?_append_left (by rw [gfound_len]; exact e)]
      exact gfound_at arcs p t i e
    · have e : i = t := by omega
      subst e
      rw [List.getElem?_append_right (by rw [gfound_len]; exact Nat.le_refl _), gfound_len, Nat.sub_self]
      rfl
/-- an arc that is picked -/
structure Picked (arcs : Arcs) (seen : List Nat) (k : Nat) (a : Nat × Nat) : Prop where
  lt : k < arcs.length
  at_ : arcs[k]? = some a
  mem : a ∈ arcs
  src : a.1 ∈ seen
  dst : a.2 ∉ seen
theorem picked_of {arcs : Arcs} {seen : List Nat} {k : Nat} (h : k ∈ pick arcs seen) : ∃ a, Picked arcs seen k a := by
  obtain ⟨h1, h2⟩ := List.mem_filter.mp h
  have hl := List.mem_range.mp h1
  have e : arcs[k]? = some arcs[k] := List.getElem?_eq_getElem hl
  rw [sel_at e] at h2
  simp only [Bool.and_eq_true, decide_eq_true_eq, Bool.not_eq_true', decide_eq_false_iff_not] at h2
  exact ⟨arcs[k], hl, e, List.getElem_mem hl, h2.1, h2.2⟩
/-- whoever is not seen yet but can be reached: an arc leads on -/
theorem pick_ne {arcs : Arcs} {seen : List Nat} {p x : Nat} (hp : p ∈ seen) (r : Reach arcs p x) : x ∉ seen → pick arcs seen ≠ [] := by
  induction r with
  | refl => exact fun h => absurd hp h
  | @step y z _ e ih =>
    intro hz
    by_cases hy : y ∈ seen
    · obtain ⟨k, hk, ek⟩ := List.getElem_of_mem e
      have e2 : arcs[k]? = some (y, z) := by rw [List.getElem?_eq_getElem hk, ek]
      have : k ∈ pick arcs seen := List.mem_filter.mpr ⟨List.mem_range.mpr hk, by rw [sel_at e2]; simp [hy, hz]⟩
      intro h0
      rw [h0] at this
      cases this
    · exact ih hy
theorem gnext_mem {arcs : Arcs} {seen : List Nat} (h : pick arcs seen ≠ []) : gnext arcs seen ∈ pick arcs seen := by
  unfold gnext
  cases e : pick arcs seen with
  | nil => exact absurd e h
  | cons k r => exact List.mem_cons_self
structure GInv (n : Nat) (arcs : Arcs) (p t : Nat) : Prop where
  nd : (gseen arcs p t).Nodup
  has : p ∈ gseen arcs p t
  ppl : ∀ x ∈ gseen arcs p t, x ∈ people n
theorem ginv_pick {n : Nat} {arcs : Arcs} {p t : Nat} (hw : p ∈ winners n arcs) (g : GInv n arcs p t) (ht : t + 1 < n) : pick arcs (gseen arcs p t) ≠ [] := by
  have : ∃ x ∈ people n, x ∉ gseen arcs p t := by
    refine Classical.byContradiction fun h => ?_
    have h2 : ∀ x ∈ people n, x ∈ gseen arcs p t := fun x hx => Classical.byContradiction fun h3 => h ⟨x, hx, h3⟩
    have h3 := (people_nodup n).length_le_of_subset (l₂ := gseen arcs p t) fun x hx => h2 x hx
    rw [people_len, gseen_len] at h3
    omega
  obtain ⟨x, hx, hn⟩ := this
  exact pick_ne g.has (winner_all hw x hx) hn
theorem ginv {n : Nat} {arcs : Arcs} (w : Web n arcs) {p : Nat} (hw : p ∈ winners n arcs) : ∀ t, t < n → GInv n arcs p t
  | 0, _ => ⟨by simp [gseen], by simp [gseen], by simpa [gseen] using (mem_winners.mp hw).1⟩
  | t + 1, ht => by
    have g := ginv w hw t (by omega)
    obtain ⟨a, pk⟩ := picked_of (gnext_mem (ginv_pick hw g ht))
    have e := goalAt_of pk.at_
    refine ⟨?_, ?_, fun x hx => ?_⟩
    · show (gseen arcs p t ++ [_]).Nodup
      rw [e, List.nodup_append]
      refine ⟨g.nd, by simp, fun x hx y hy z => ?_⟩
      rw [List.mem_singleton.mp hy] at z
      exact pk.dst (z ▸ hx)
    · exact List.mem_append_left _ g.has
    · have hx : x ∈ gseen arcs p t ++ [_] := hx
      rcases List.mem_append.mp hx with z | z
      · exact g.ppl x z
      · rw [List.mem_singleton.mp z, e]; exact w.dstP pk.mem
/-- what is needed of a turn -/
theorem gpicked {n : Nat} {arcs : Arcs} (w : Web n arcs) {p t : Nat} (hw : p ∈ winners n arcs) (ht : t + 1 < n) : ∃ a r, pick arcs (gseen arcs p t) = gnext arcs (gseen arcs p t) :: r ∧ Picked arcs (gseen arcs p t) (gnext arcs (gseen arcs p t)) a ∧ goalAt arcs (gnext arcs (gseen arcs p t)) = a.2 := by
  have hne := ginv_pick hw (ginv w hw t (by omega)) ht
  obtain ⟨a, pk⟩ := picked_of (gnext_mem hne)
  unfold gnext at *
  cases e : pick arcs (gseen arcs p t) with
  | nil => exact absurd e hne
  | cons k r =>
    rw [e] at pk
    exact ⟨a, r, rfl, pk, goalAt_of pk.at_⟩

/-! ### what is said behind the log -/
def over (arcs : Arcs) (some_ : List Nat) (k : Nat) : List Nat := some_.take (goalAt arcs k - 1) ++ [some_.getD (srcAt arcs k - 1) 0] ++ some_.drop (goalAt arcs k)
def overs (arcs : Arcs) (ks : List Nat) (some_ : List Nat) : List Nat := ks.foldl (over arcs) some_
theorem overs_snoc (arcs : Arcs) (ks : List Nat) (k : Nat) (some_ : List Nat) : overs arcs (ks ++ [k]) some_ = over arcs (overs arcs ks some_) k := by
  unfold overs
  rw [List.foldl_append]
  rfl
theorem over_len {n : Nat} {arcs : Arcs} {l : List Nat} {k : Nat} (hl : l.length = n) (h1 : 1 ≤ goalAt arcs k) (h2 : goalAt arcs k ≤ n) : (over arcs l k).length = n := by
  unfold over
  simp only [List.length_append, List.length_take, List.length_drop, List.length_singleton]
  omega
theorem over_at {n : Nat} {arcs : Arcs} {l : List Nat} {k i : Nat} (hl : l.length = n) (h1 : 1 ≤ goalAt arcs k) (h2 : goalAt arcs k ≤ n) (hi : i < n) : (over arcs l k).getD i 0 = if i + 1 = goalAt arcs k then l.getD (srcAt arcs k - 1) 0 else l.getD i 0 := by
  unfold over
  rw [List.getD_eq_getElem?_getD, List.append_assoc]
  by_cases c1 : i < goalAt arcs k - 1
  · rw [List.getElem?_append_left (by rw [List.length_take]; omega), List.getElem?_take_of_lt c1, if_neg (by omega), List.getD_eq_getElem?_getD]
  · have tl : (l.take (goalAt arcs k - 1)).length = goalAt arcs k - 1 := by rw [List.length_take]; omega
    rw [List.getElem?_append_right (by omega), tl]
    by_cases c2 : i + 1 = goalAt arcs k
    · rw [if_pos c2, show i - (goalAt arcs k - 1) = 0 by omega]
      rfl
    · rw [if_neg c2, List.getElem?_append_right (by rw [List.length_singleton]; omega), List.length_singleton, List.getElem?_drop, show goalAt arcs k + (i - (goalAt arcs k - 1) - 1) = i by omega, List.getD_eq_getElem?_getD]
theorem overs_inv {n : Nat} {arcs : Arcs} (w : Web n arcs) {p : Nat} (hw : p ∈ winners n arcs) : ∀ t, t < n → (overs arcs (gfound arcs p t) (people n)).length = n ∧ ∀ x ∈ gseen arcs p t, (overs arcs (gfound arcs p t) (people n)).getD (x - 1) 0 = p
  | 0, _ => by
    refine ⟨people_len n, fun x hx => ?_⟩
    have e : x = p := by simpa [gseen] using hx
    subst e
    have hp := mem_people.mp (mem_winners.mp hw).1
    show (people n).getD (x - 1) 0 = x
    rw [List.getD_eq_getElem?_getD, people_at (by omega)]
    simp; omega
  | t + 1, ht => by
    obtain ⟨h1, h2⟩ := overs_inv w hw t (by omega)
    obtain ⟨a, r, _, pk, e⟩ := gpicked w hw ht
    have ga := w.dst a pk.mem
    have sa := w.src a pk.mem
    have es := srcAt_of pk.at_
    have ee : overs arcs (gfound arcs p (t + 1)) (people n) = over arcs (overs arcs (gfound arcs p t) (people n)) (gnext arcs (gseen arcs p t)) := overs_snoc ..
    rw [ee]
    refine ⟨over_len h1 (by omega) (by omega), fun x hx => ?_⟩
    have g := ginv w hw (t + 1) ht
    have xp := mem_people.mp (g.ppl x hx)
    rw [over_at h1 (by omega) (by omega) (by omega)]
    have hx : x ∈ gseen arcs p t ++ [goalAt arcs (gnext arcs (gseen arcs p t))] := hx
    by_cases c : x - 1 + 1 = goalAt arcs (gnext arcs (gseen arcs p t))
    · rw [if_pos c, es]
      exact h2 a.1 pk.src
    · rw [if_neg c]
      rcases List.mem_append.mp hx with z | z
      · exact h2 x z
      · have := List.mem_singleton.mp z
        omega
theorem overs_end {n : Nat} {arcs : Arcs} (w : Web n arcs) {p : Nat} (hw : p ∈ winners n arcs) : overs arcs (gfound arcs p (n - 1)) (people n) = List.replicate n p := by
  have hn := w.n1
  obtain ⟨h1, h2⟩ := overs_inv w hw (n - 1) (by omega)
  have g := ginv w hw (n - 1) (by omega)
  rw [List.eq_replicate_iff]
  refine ⟨h1, fun b hb => ?_⟩
  obtain ⟨i, hi, e⟩ := List.getElem_of_mem hb
  rw [h1] at hi
  have hm : i + 1 ∈ gseen arcs p (n - 1) := all_in g.nd g.ppl (by rw [gseen_len]; omega) _ (mem_people.mpr ⟨by omega, by omega⟩)
  have := h2 (i + 1) hm
  rw [Nat.add_sub_cancel, List.getD_eq_getElem?_getD, List.getElem?_eq_getElem (by rw [h1]; exact hi), Option.getD_some, e] at this
  exact this
end BM
set_option maxHeartbeats 1000000
namespace BM
open List

/-! ### all sets -/
def addTo (acc : List (List Nat)) (p : Nat) : List (List Nat) := acc ++ acc.map fun S => S ++ [p]
def setsOf (ps : List Nat) : List (List Nat) := ps.foldl addTo [[]]
theorem setsOf_snoc (ps : List Nat) (p : Nat) : setsOf (ps ++ [p]) = addTo (setsOf ps) p := by
  unfold setsOf
  rw [List.foldl_append]
  rfl
theorem snoc_ind {α : Type} {P : List α → Prop} (h0 : P []) (hs : ∀ l a, P l → P (l ++ [a])) : ∀ l, P l := by
  intro l
  have : ∀ r : List α, P r.reverse := by
    intro r
    induction r with
    | nil => exact h0
    | cons a r ih => rw [List.reverse_cons]; exact hs _ _ ih
  have h := this l.reverse
  rwa [List.reverse_reverse] at h
theorem mem_setsOf : ∀ ps S, S ∈ setsOf ps ↔ S <+ ps := by
  refine snoc_ind (fun S => ?_) (fun ps p ih S => ?_)
  · simp [setsOf]
  · rw [setsOf_snoc]
    unfold addTo
    rw [List.mem_append, List.mem_map, List.sublist_append_iff]
    constructor
    · rintro (h | ⟨T, hT, rfl⟩)
      · exact ⟨S, [], by simp, (ih S).mp h, by simp⟩
      · exact ⟨T, [p], rfl, (ih T).mp hT, List.Sublist.refl _⟩
    · rintro ⟨a, b, rfl, ha, hb⟩
      cases hb with
      | cons _ h =>
        have : b = [] := List.sublist_nil.mp h
        subst this
        exact .inl (by rw [List.append_nil]; exact (ih a).mpr ha)
      | cons_cons _ h =>
        have := List.sublist_nil.mp h
        subst this
        exact .inr ⟨a, (ih a).mpr ha, rfl⟩
theorem setsOf_nodup : ∀ ps : List Nat, ps.Nodup → (setsOf ps).Nodup := by
  refine snoc_ind (fun _ => by simp [setsOf]) (fun ps p ih hd => ?_)
  rw [List.nodup_append] at hd
  obtain ⟨h1, _, h3⟩ := hd
  rw [setsOf_snoc]
  unfold addTo
  rw [List.nodup_append]
  refine ⟨ih h1, ?_, fun S hS T hT e => ?_⟩
  · unfold List.Nodup
    rw [List.pairwise_map]
    exact (ih h1).imp fun h e => h (List.append_cancel_right e)
  · obtain ⟨U, _, rfl⟩ := List.mem_map.mp hT
    have hsub := (mem_setsOf ps S).mp hS
    have : p ∈ ps := hsub.subset (by rw [e]; simp)
    exact h3 p this p (by simp) rfl
theorem setsOf_len : ∀ ps : List Nat, (setsOf ps).length = 2 ^ ps.length := by
  refine snoc_ind (by simp [setsOf]) (fun ps p ih => ?_)
  rw [setsOf_snoc]
  unfold addTo
  rw [List.length_append, List.length_map, ih, List.length_append, List.length_singleton, Nat.pow_succ]
  omega
/-- a sublist of a list without repetitions is known by its members -/
theorem sub_filter : ∀ {l S : List Nat}, l.Nodup → S <+ l → S = l.filter fun x => decide (x ∈ S)
  | [], _, _, h => by rw [List.sublist_nil.mp h]; rfl
  | a :: l, S, hd, h => by
    obtain ⟨hn, hd'⟩ := List.nodup_cons.mp hd
    cases h with
    | cons _ h =>
      have hs : a ∉ S := fun m => hn (h.subset m)
      rw [List.filter_cons_of_neg (by simpa using hs)]
      exact sub_filter hd' h
    | @cons_cons S' _ _ h =>
      rw [List.filter_cons_of_pos (by simp)]
      congr 1
      have ih := sub_filter hd' h
      rw [ih]
      refine List.filter_congr fun x hx => ?_
      have hxa : x ≠ a := fun e => hn (e ▸ hx)
      rw [← ih]
      simp [hxa]
theorem sub_ext {l S T : List Nat} (hd : l.Nodup) (hS : S <+ l) (hT : T <+ l) (h : ∀ x, x ∈ S ↔ x ∈ T) : S = T := by
  rw [sub_filter hd hS, sub_filter hd hT]
  exact List.filter_congr fun x _ => by simp [h x]

/-! ### closed sets -/
def isClosed (arcs : Arcs) (S : List Nat) : Bool := !arcs.any fun a => decide (a.2 ∈ S) && !decide (a.1 ∈ S)
theorem isClosed_iff {arcs : Arcs} {S : List Nat} : isClosed arcs S = true ↔ ∀ x y, (x, y) ∈ arcs → y ∈ S → x ∈ S := by
  unfold isClosed
  rw [Bool.not_eq_true', ← Bool.not_eq_true, List.any_eq_true]
  constructor
  · intro h x y e hy
    refine Classical.byContradiction fun hx => h ⟨(x, y), e, by simp [hx, hy]⟩
  · rintro h ⟨a, ha, h2⟩
    simp only [Bool.and_eq_true, decide_eq_true_eq, Bool.not_eq_true', decide_eq_false_iff_not] at h2
    exact h2.2 (h a.1 a.2 ha h2.1)
def entering (arcs : Arcs) (S : List Nat) : Arcs := arcs.filter fun a => decide (a.2 ∈ S) && !decide (a.1 ∈ S)
theorem entering_nil {arcs : Arcs} {S : List Nat} : (entering arcs S).isEmpty = isClosed arcs S := by
  unfold entering isClosed
  rw [Bool.eq_iff_iff, List.isEmpty_iff, List.filter_eq_nil_iff, Bool.not_eq_true', ← Bool.not_eq_true, List.any_eq_true]
  exact ⟨fun h ⟨a, ha, h2⟩ => h a ha h2, fun h a ha h2 => h ⟨a, ha, h2⟩⟩
def closed (n : Nat) (arcs : Arcs) : List (List Nat) := (setsOf (people n)).filter (isClosed arcs)
theorem mem_closed {n : Nat} {arcs : Arcs} {S : List Nat} : S ∈ closed n arcs ↔ S <+ people n ∧ ∀ x y, (x, y) ∈ arcs → y ∈ S → x ∈ S := by
  unfold closed
  rw [List.mem_filter, mem_setsOf, isClosed_iff]
theorem closed_nodup (n : Nat) (arcs : Arcs) : (closed n arcs).Nodup := (setsOf_nodup _ (people_nodup n)).filter _
def outOf (S O : List Nat) : List Nat := O.filter fun x => !decide (x ∈ S)
theorem outOf_nil {S O : List Nat} : (outOf S O).isEmpty = true ↔ ∀ x ∈ O, x ∈ S := by
  unfold outOf
  rw [List.isEmpty_iff, List.filter_eq_nil_iff]
  simp
def isInner (S O : List Nat) : Bool := !decide (O = S) && (!decide (O = []) && (outOf S O).isEmpty)
def inner (cl : List (List Nat)) (S : List Nat) : List (List Nat) := cl.filter (isInner S)
def isLeast (cl : List (List Nat)) (S : List Nat) : Bool := !decide (S = []) && (inner cl S).isEmpty
def least (n : Nat) (arcs : Arcs) : List (List Nat) := (closed n arcs).filter (isLeast (closed n arcs))
theorem mem_least {n : Nat} {arcs : Arcs} {S : List Nat} : S ∈ least n arcs ↔ S ∈ closed n arcs ∧ S ≠ [] ∧ ∀ O ∈ closed n arcs, O ≠ S → O ≠ [] → ¬ ∀ x ∈ O, x ∈ S := by
  unfold least isLeast inner isInner
  rw [List.mem_filter, Bool.and_eq_true, List.isEmpty_iff, List.filter_eq_nil_iff]
  simp only [Bool.not_eq_true', decide_eq_false_iff_not, Bool.and_eq_true, outOf_nil]
  constructor
  · rintro ⟨h1, h2, h3⟩
    exact ⟨h1, h2, fun O hO a b c => h3 O hO ⟨a, b, c⟩⟩
  · rintro ⟨h1, h2, h3⟩
    exact ⟨h1, h2, fun O hO ⟨a, b, c⟩ => h3 O hO a b c⟩
theorem least_nodup (n : Nat) (arcs : Arcs) : (least n arcs).Nodup := (closed_nodup n arcs).filter _

/-! ### springs -/
open Classical in
noncomputable def sources (n : Nat) (arcs : Arcs) (p : Nat) : List Nat := (people n).filter fun q => decide (p ∈ heard n arcs q)
theorem mem_sources {n : Nat} {arcs : Arcs} {p q : Nat} (hp : p ∈ people n) : q ∈ sources n arcs p ↔ q ∈ people n ∧ Reach arcs q p := by
  simp [sources, List.mem_filter, mem_heard, hp]
theorem sources_sub (n : Nat) (arcs : Arcs) (p : Nat) : sources n arcs p <+ people n := List.filter_sublist
theorem sources_ppl {n : Nat} {arcs : Arcs} {p q : Nat} (h : q ∈ sources n arcs p) : q ∈ people n := (sources_sub n arcs p).subset h
theorem sources_nodup (n : Nat) (arcs : Arcs) (p : Nat) : (sources n arcs p).Nodup := (people_nodup n).sublist (sources_sub n arcs p)
theorem sources_len (n : Nat) (arcs : Arcs) (p : Nat) : (sources n arcs p).length ≤ n := len_le (sources_nodup n arcs p) fun _ h => sources_ppl h
theorem sources_self {n : Nat} {arcs : Arcs} {p : Nat} (hp : p ∈ people n) : p ∈ sources n arcs p := (mem_sources hp).mpr ⟨hp, .refl⟩
noncomputable def isSpring (n : Nat) (arcs : Arcs) (p : Nat) : Bool := (sources n arcs p).all fun q => decide (p ∈ sources n arcs q)
theorem isSpring_iff {n : Nat} {arcs : Arcs} {p : Nat} : isSpring n arcs p = true ↔ ∀ q ∈ sources n arcs p, p ∈ sources n arcs q := by
  unfold isSpring
  rw [List.all_eq_true]
  simp
noncomputable def kstep (n : Nat) (arcs : Arcs) (acc : List (List Nat)) (p : Nat) : List (List Nat) :=
  if isSpring n arcs p = true then (if sources n arcs p ∈ acc then acc else acc ++ [sources n arcs p]) else acc
noncomputable def keysTo (n : Nat) (arcs : Arcs) (ps : List Nat) : List (List Nat) := ps.foldl (kstep n arcs) []
theorem keysTo_snoc (n : Nat) (arcs : Arcs) (ps : List Nat) (p : Nat) : keysTo n arcs (ps ++ [p]) = kstep n arcs (keysTo n arcs ps) p := by
  unfold keysTo
  rw [List.foldl_append]
  rfl
theorem keysTo_inv (n : Nat) (arcs : Arcs) : ∀ ps : List Nat, (keysTo n arcs ps).Nodup ∧ (keysTo n arcs ps).length ≤ ps.length ∧ ∀ S, S ∈ keysTo n arcs ps ↔ ∃ p ∈ ps, isSpring n arcs p = true ∧ sources n arcs p = S := by
  refine snoc_ind ⟨by simp [keysTo], by simp [keysTo], fun S => by simp [keysTo]⟩ (fun ps p ih => ?_)
  obtain ⟨h1, h0, h2⟩ := ih
  rw [keysTo_snoc]
  unfold kstep
  by_cases c : isSpring n arcs p = true
  · rw [if_pos c]
    by_cases d : sources n arcs p ∈ keysTo n arcs ps
    · rw [if_pos d]
      refine ⟨h1, by rw [List.length_append]; omega, fun S => ?_⟩
      rw [h2]
      constructor
      · rintro ⟨q, hq, h⟩
        exact ⟨q, List.mem_append_left _ hq, h⟩
      · rintro ⟨q, hq, h3, h4⟩
        rcases List.mem_append.mp hq with z | z
        · exact ⟨q, z, h3, h4⟩
        · rw [List.mem_singleton.mp z] at h4
          exact (h2 S).mp (h4 ▸ d)
    · rw [if_neg d]
      refine ⟨?_, by rw [List.length_append, List.length_append, List.length_singleton, List.length_singleton]; omega, fun S => ?_⟩
      · rw [List.nodup_append]
        refine ⟨h1, by simp, fun x hx y hy e => ?_⟩
        rw [List.mem_singleton.mp hy] at e
        exact d (e ▸ hx)
      · rw [List.mem_append, h2, List.mem_singleton]
        constructor
        · rintro (⟨q, hq, h⟩ | h)
          · exact ⟨q, List.mem_append_left _ hq, h⟩
          · exact ⟨p, List.mem_append_right _ (List.mem_singleton.mpr rfl), c, h.symm⟩
        · rintro ⟨q, hq, h3, h4⟩
          rcases List.mem_append.mp hq with z | z
          · exact .inl ⟨q, z, h3, h4⟩
          · rw [List.mem_singleton.mp z] at h4
            exact .inr h4.symm
  · rw [if_neg c]
    refine ⟨h1, by rw [List.length_append]; omega, fun S => ?_⟩
    rw [h2]
    constructor
    · rintro ⟨q, hq, h⟩
      exact ⟨q, List.mem_append_left _ hq, h⟩
    · rintro ⟨q, hq, h3, h4⟩
      rcases List.mem_append.mp hq with z | z
      · exact ⟨q, z, h3, h4⟩
      · rw [List.mem_singleton.mp z] at h3
        exact absurd h3 c
noncomputable def keys (n : Nat) (arcs : Arcs) : List (List Nat) := keysTo n arcs (people n)
theorem sources_closed {n : Nat} {arcs : Arcs} (w : Web n arcs) {p : Nat} (hp : p ∈ people n) : sources n arcs p ∈ closed n arcs := by
  rw [mem_closed]
  refine ⟨sources_sub n arcs p, fun x y e hy => ?_⟩
  rw [mem_sources hp] at hy ⊢
  exact ⟨w.srcP e, .head e hy.2⟩
theorem sources_in {n : Nat} {arcs : Arcs} {p : Nat} (hp : p ∈ people n) {S : List Nat} (hS : S ∈ closed n arcs) (h : p ∈ S) : ∀ q ∈ sources n arcs p, q ∈ S := fun q hq =>
  ((mem_sources hp).mp hq).2.before (mem_closed.mp hS).2 h
theorem keys_iff {n : Nat} {arcs : Arcs} (w : Web n arcs) (S : List Nat) : S ∈ keys n arcs ↔ S ∈ least n arcs := by
  unfold keys
  rw [(keysTo_inv n arcs (people n)).2.2, mem_least]
  constructor
  · rintro ⟨p, hp, hc, rfl⟩
    have hc := isSpring_iff.mp hc
    refine ⟨sources_closed w hp, fun e => ?_, fun O hO hne h0 hin => ?_⟩
    · have := sources_self (arcs := arcs) hp
      rw [e] at this
      cases this
    · obtain ⟨q, hq⟩ := List.exists_mem_of_ne_nil O h0
      have hqs := hin q hq
      have hqp := sources_ppl hqs
      have hpO : p ∈ O := sources_in hqp hO hq p (hc q hqs)
      exact hne (sub_ext (people_nodup n) (mem_closed.mp hO).1 (sources_sub n arcs p) fun x => ⟨hin x, sources_in hp hO hpO x⟩)
  · rintro ⟨hS, h0, hmin⟩
    have sub := (mem_closed.mp hS).1
    have same : ∀ q ∈ S, sources n arcs q = S := fun q hq => by
      have hqp := sub.subset hq
      refine Classical.byContradiction fun hne => hmin (sources n arcs q) (sources_closed w hqp) hne (fun e => ?_) (sources_in hqp hS hq)
      have := sources_self (arcs := arcs) hqp
      rw [e] at this
      cases this
    obtain ⟨p, hp⟩ := List.exists_mem_of_ne_nil S h0
    refine ⟨p, sub.subset hp, isSpring_iff.mpr fun q hq => ?_, same p hp⟩
    rw [same p hp] at hq
    rw [same q hq]
    exact hp
theorem keys_perm {n : Nat} {arcs : Arcs} (w : Web n arcs) : (keys n arcs).Perm (least n arcs) :=
  (List.perm_ext_iff_of_nodup (keysTo_inv n arcs (people n)).1 (least_nodup n arcs)).mpr (keys_iff w)
theorem keys_len {n : Nat} {arcs : Arcs} : (keys n arcs).length ≤ n := by
  have := (keysTo_inv n arcs (people n)).2.1
  rwa [people_len] at this
end BM
set_option maxRecDepth 100000
set_option maxHeartbeats 4000000
/-! any, all of a generator expression over anything that PI serves, the element any expression (it may call defs) -/
namespace GA
open PySem PySem.Spec PyProof.Rows L2 GxR GenW

/-- the context of a generator expression's frame -/
abbrev gcx (X : Cx) (A : Around) (s : Shared) (H : Hp) (genv : Env) (fp : List Addr) (pn : List (Addr × Obj)) : Cx :=
  { X with A := A, s_0 := s, H_0 := H, env := genv, outer := X.stack, stack := genv :: X.stack, ex := fp, fn := fun _ => false, calm := true, pn := pn, xe := fun _ _ => False }

structure GBlk (N : List Str) (sc scope : Scope) (own : List (Str × Nat)) : Prop where
  kind : scope.kind = .function
  co : scope.isCoroutine = false
  nocell : ∀ y ∈ scope.names, y.2 ≠ .cell
  dot : scope.names.lookup (".0" : Str) = some NameKind.local
  ix : ∀ p ∈ own, N[p.2]? = some p.1
  free : ∀ y ∈ scope.names, y.2 = .free → sc.names.lookup y.1 = some .cell ∨ sc.names.lookup y.1 = some .free
  own : ∀ y ∈ scope.names, y.2 = .local → y.1 ∈ own.map (·.1) ∨ y.1 ∉ N

section
variable {X : Cx} {pins : List (Addr × Obj)} {σ : L2.St} {H : Hp} {s : Shared}
theorem gen_start {scope : Scope} {own : List (Str × Nat)} {fp : List Addr} {A : Around} {code : Value} {pn : List (Addr × Obj)} {s' : Shared} (I : Inv X pins σ H s) (ok : GBlk X.N X.env.scope scope own) (hN : X.N.Nodup)
    (hfp : ∀ b ∈ fp, FpOk X pins H b ∧ b < s.heap.objs.size) (hA : A.handled = none)
    (hfr : A.frames = some (genEnv scope (cloFrom X.env.cells scope.names []) s.heap.objs.size code builtinsNs X.env :: X.stack))
    (kp : ∀ b o, s.heap.get? b = some o → s'.heap.get? b = some o) (os : s'.os = s.os) (hb : AllBare s'.gens) (hns : ∃ m, s'.heap.Ns s.heap.objs.size m)
    (hpn : ∀ p ∈ pn, s'.heap.get? p.1 = some p.2 ∧ s.heap.objs.size < p.1 ∧ ∀ v, p.2.data ≠ .cell v) :
    Inv (gcx X A s H (genEnv scope (cloFrom X.env.cells scope.names []) s.heap.objs.size code builtinsNs X.env) fp pn) [] (wipe σ (own.map (·.2))) H s' := by
  have hfree : ∀ y ∈ scope.names, y.2 = .free → ∃ c, X.env.cells.lookup y.1 = some c := fun y hy e => by
    rcases ok.free y hy e with k | k
    · exact I.ok.has _ (.inl k)
    · exact I.ok.has _ (.inr k)
  generalize hcl : cloFrom X.env.cells scope.names [] = cl at hfr ⊢
  generalize hg : genEnv scope cl s.heap.objs.size code builtinsNs X.env = genv at hfr ⊢
  have hL : genv.locals = s.heap.objs.size := by rw [← hg]; rfl
  have hcells : genv.cells = cl := by rw [← hg]; rfl
  have hsc : genv.scope = scope := by rw [← hg]; rfl
  have hfrm : genv.frame = some genv.locals := by rw [← hg]; rfl
  have cm : ∀ {y c}, (y, c) ∈ cl → X.env.cells.lookup y = some c ∧ c < s.heap.objs.size := fun {y c} hm => by
    rw [← hcl] at hm
    rcases cloFrom_mem hm with hm | ⟨h1, rfl⟩
    · cases hm
    · obtain ⟨c, hc⟩ := hfree _ h1 rfl
      rw [hc]
      obtain ⟨w, z⟩ := I.cell _ _ hc
      exact ⟨rfl, z.lt⟩
  have mem : ∀ {y c}, genv.cells.lookup y = some c → X.env.cells.lookup y = some c ∧ c < s.heap.objs.size := fun {y c} e => by
    rw [hcells] at e
    exact cm (PySem.mem_of_lookup e)
  have look : ∀ {y}, scope.names.lookup y = some .free → ∃ c, genv.cells.lookup y = some c ∧ X.env.cells.lookup y = some c := fun {y} hl => by
    have hy : (y, NameKind.free) ∈ scope.names := PySem.mem_of_lookup hl
    obtain ⟨c', e'⟩ := mem_lookup (cloFrom_has (cells := X.env.cells) (acc := []) hy)
    rw [hcl] at e'
    exact ⟨c', by rw [hcells]; exact e', (cm (PySem.mem_of_lookup e')).1⟩
  have kinds : ∀ {y k}, scope.names.lookup y = some k → k ≠ .cell := fun {y k} hl => ok.nocell (y, k) (PySem.mem_of_lookup hl)
  have okG : (gcx X A s H genv fp pn).Ok := by
    refine ⟨I.ok.mod, by show genv.scope.kind = _; rw [hsc]; exact ok.kind, by show genv.globals = _; rw [← hg]; exact I.ok.glob, by show genv.builtins = _; rw [← hg]; rfl, by show s.heap.objs.size ≤ genv.locals; rw [hL]; exact Nat.le_refl _,
      fun y z c e1 e2 => I.ok.inj y z c (mem e1).1 (mem e2).1, fun y hy => ?_, fun y c z _ => Bool.noConfusion (show false = true from z), fun _ => hA, hfr, .inr ⟨rfl, hfrm⟩, fun b hb => ⟨?_, fun y c e z => ?_⟩, I.bs, Nat.le_trans I.ok.bsz I.sz, fun b o e hb => ?_, fun b hb z => ?_, I.stack, I.stkFree⟩
    · rcases hy with hy | hy
      · have hy : genv.scope.names.lookup y = some .cell := hy
        rw [hsc] at hy
        exact absurd rfl (kinds hy)
      · have hy : genv.scope.names.lookup y = some .free := hy
        rw [hsc] at hy
        obtain ⟨c, h1, _⟩ := look hy
        exact ⟨c, h1⟩
    · show b ≠ genv.locals
      rw [hL]; exact Nat.ne_of_lt (hfp b hb).2
    · exact (hfp b hb).1.2.2.2.2.1 y c (mem e).1 z
    · rcases (hfp b hb).1.2.2.2.1 with z | z
      · exact I.ok.noex b o e z
      · exact absurd (Nat.lt_of_lt_of_le (Heap.lt_size e) (Nat.le_trans I.ok.bsz z)) (Nat.lt_irrefl _)
    · rcases List.mem_cons.mp (I.stkSub b z) with z | z
      · exact (hfp b hb).1.2.1 z
      · exact (hfp b hb).1.2.2.1 z
  refine ⟨okG, os, hb, Un.kept kp, ?_, fun y c e => ?_, ?_, fun y c e => ?_, fun p hp => ?_, I.hok.kept kp, by rw [wipe_length]; exact I.len⟩
  · obtain ⟨m, hm⟩ := hns
    refine ⟨m, by show Heap.Ns _ genv.locals _; rw [hL]; exact hm, fun i y av e1 e2 e3 => ?_⟩
    obtain ⟨e2, hne⟩ := wipe_some e2
    have e3 : Vis genv.scope y := e3
    rw [hsc] at e3
    have hfr : scope.names.lookup y = some .free := by
      rcases e3 with e3 | e3 | e3
      · exfalso
        rcases ok.own _ (PySem.mem_of_lookup e3) rfl with e' | e'
        · obtain ⟨p, hp, hpy⟩ := List.mem_map.mp e'
          have e4 := ok.ix p hp
          have : p.1 = y := hpy
          rw [this] at e4
          exact hne (List.mem_map.mpr ⟨p, hp, nodup_ix hN e4 e1⟩)
        · exact e' (List.mem_of_getElem? e1)
      · exact absurd rfl (kinds e3)
      · exact e3
    obtain ⟨m', hn, hl⟩ := I.loc
    have hvis : Vis X.env.scope y := (ok.free _ (PySem.mem_of_lookup hfr) rfl).elim (fun k => .inr (.inl k)) (fun k => .inr (.inr k))
    obtain ⟨w, r, q⟩ := hl i y av e1 e2 hvis
    refine ⟨w, r, .inr ⟨.inr (by show genv.scope.names.lookup y = some .free; rw [hsc]; exact hfr), ?_⟩⟩
    obtain ⟨c, h1, h2⟩ := look hfr
    rcases q with ⟨k, _⟩ | ⟨_, c', e', z⟩
    · have k : X.env.scope.names.lookup y = some .local := k
      rcases ok.free _ (PySem.mem_of_lookup hfr) rfl with k' | k' <;> rw [show X.env.scope.names.lookup y = _ from k'] at k <;> cases k
    · rw [h2] at e'; cases e'
      exact ⟨c, h1, z.keeps kp⟩
  · obtain ⟨w, z⟩ := I.cell y c (mem e).1
    exact ⟨w, z.keeps kp⟩
  · show H genv.locals = none
    rw [hL]; exact I.hok.fresh (Nat.le_refl _)
  · exact I.freeC y c (mem e).1
  · have hp : p ∈ pn := by simpa using hp
    obtain ⟨h1, h2, h3⟩ := hpn p hp
    refine ⟨h1, I.hok.fresh (Nat.le_of_lt h2), by show p.1 ≠ genv.locals; rw [hL]; exact Nat.ne_of_gt h2, fun z => ?_, h3⟩
    rcases List.mem_cons.mp (I.stkSub p.1 z) with z | z
    · have := I.lt
      rw [← z] at this
      exact absurd (Nat.lt_trans h2 this) (Nat.lt_irrefl _)
    · exact I.nofs (Nat.le_of_lt h2) z
end

/-! ### the generator's run -/
/-- while it sleeps nothing of the heap changes -/
structure Slp (s s' : Shared) : Prop where
  heap : s'.heap = s.heap
  os : s'.os = s.os
  bare : AllBare s'.gens
def AY (G : Cx) (sv : Bool) (Qs : Hp → Prop) : Protocol := fun n s₀ v s kap => ∃ (b : Bool) (σ' : L2.St) (H' : Hp), v = .bool b ∧ Inv G [] σ' H' s ∧ (if b = sv then Qs H' else ∀ s', Slp s s' → kap (.send .none) s')
def AR (G : Cx) (Qe : Hp → Prop) : GenEnd := fun n s₀ r s => r = .ok .next ∧ ∃ σ' H', Inv G [] σ' H' s ∧ Qe H'
theorem inv_slp {G : Cx} {σ : L2.St} {H : Hp} {s s' : Shared} (I : Inv G [] σ H s) (z : Slp s s') : Inv G [] σ H s' :=
  I.call' (ch := []) z.os (by rw [z.heap]; exact Un.refl) (by rw [z.heap]; exact I.hok) z.bare fun b hb => by simp at hb

/-- the reading of a turn -/
def TurnR (J : It) (g : TG) (te : TE) (σw : L2.St) (vs : List Nat) (sv : Bool) (Qs Qe : Hp → Prop) (W : Nat → Nat → Hp → Prop) : Prop := ∀ i m H, W i m H →
  (J.stop i H ∧ Qe H) ∨ (J.go i H ∧ ∃ Nx : Hp → Prop, (∀ H', Nx H' → ∃ m', m' < m ∧ W (i + 1) m' H') ∧ ∀ x H', J.yld i H x H' → g x σw H' fun σ2 H2 => wipe σ2 vs = σw ∧
    te σ2 H2 fun y H3 => ∃ b, y = .bl b ∧ if b = sv then Qs H3 else Nx H3)

theorem over_gen {A : Around} {elt tg iter : Expr} {ifs : List Expr} {scope : Scope} {pos : Pos} {it acc : Value} {env : Env} : A.over (.compLoop (.GeneratorExp elt [⟨tg, iter, ifs, 0⟩] scope pos) 0 it acc env) [] = A.deeper env := by
  first
    | rfl
    | (obtain ⟨hd, d, fr, gs, u⟩ := A; simp [Around.over, Around.deeper, marksOver, frameCount, unitsOf, envsOf, guardsOf, pushEnvs, pushGuards, Code.envs, Code.env?, Code.isFrame, Code.guards, Code.isGuard, Code.weight, Code.frames, Code.isCreation, Code.isCaller, Code.cUnits])
theorem over_genS {A : Around} {elt tg iter : Expr} {ifs : List Expr} {scope : Scope} {pos : Pos} {it acc : Value} {env : Env} : A.over (.compStart (.GeneratorExp elt [⟨tg, iter, ifs, 0⟩] scope pos) 0 it acc env) [] = A.deeper env := by
  first
    | rfl
    | (obtain ⟨hd, d, fr, gs, u⟩ := A; simp [Around.over, Around.deeper, marksOver, frameCount, unitsOf, envsOf, guardsOf, pushEnvs, pushGuards, Code.envs, Code.env?, Code.isFrame, Code.guards, Code.isGuard, Code.weight, Code.frames, Code.isCreation, Code.isCaller, Code.cUnits])

section
variable {G : Cx} {A₁ : Around} {elt tg iter : Expr} {scope : Scope} {pos : Pos} {it : Addr} {fp : List Addr} {tn : Nat → Heap → Prop} {J : It} {g : TG} {te : TE} {σ : L2.St} {vs : List Nat} {sv : Bool} {Qs Qe : Hp → Prop} {W : Nat → Nat → Hp → Prop}
theorem seg_loop (hA : A₁.deeper G.env = G.A) (hco : G.env.scope.isCoroutine = false) (hcalm : G.calm = true) (hex : G.ex = fp) (hpn : ∀ b ∈ fp, ∀ p ∈ G.pn, p.1 ≠ b) (T : Turn G.prog G.w G.K tg J fp it tn) (pg : PG G tg g) (pe : PE G elt te) (hxe : G.xe = fun _ _ => False) (turn : TurnR J g te (wipe σ vs) vs sv Qs Qe W) :
    ∀ (m n i : Nat) (s₀ s : Shared) (H : Hp), m < n → W i m H → Inv G [] (wipe σ vs) H s → tn i s.heap → (∀ b ∈ fp, H b = none) →
      Seg (model G.prog G.w) A₁ (AR G Qe) (AY G sv Qs) n s₀ (.compLoop (.GeneratorExp elt [⟨tg, iter, [], 0⟩] scope pos) 0 (.ref it) .none G.env)
        ((model G.prog G.w).den (.compLoop (.GeneratorExp elt [⟨tg, iter, [], 0⟩] scope pos) 0 (.ref it) .none G.env)) [] s := by
  have stat : ∀ {σ' : L2.St} {H' : Hp} {s' : Shared}, Inv G [] σ' H' s' → (∀ b ∈ fp, H' b = none) → ∀ b ∈ fp, FpOk G [] H' b := fun {σ' H' s'} I' hn b hb =>
    ⟨hn b hb, (I'.ok.exf b (hex ▸ hb)).1, I'.ok.exfs b (hex ▸ hb), .inl (hex ▸ hb), fun x c e => (I'.ok.exf b (hex ▸ hb)).2 x c e, fun p hp => hpn b hb p (by simpa using hp)⟩
  intro m
  induction m using Nat.strongRecOn with
  | ind m ih =>
    intro n i s₀ s H hn w I st nfp
    obtain ⟨n, rfl⟩ : ∃ k, n = k + 1 := ⟨n - 1, by omega⟩
    show Seg _ A₁ _ _ _ s₀ _ ((compTurn (.GeneratorExp elt [⟨tg, iter, [], 0⟩] scope pos) 0 (.ref it) .none G.env).onRaise (leaving G.env)) [] s
    rw [compTurn_gen, Sem.onRaise_eq_wrap]
    refine seg_bind_wrap (wpAny_standAt ?_)
    refine seg_bind_wrap ?_
    rw [over_gen, hA]
    rcases turn i m H w with ⟨stop, qe⟩ | ⟨go, Nx, hNx, step⟩
    · refine thn (T.done G rfl rfl rfl hcalm i [] s _ H _ I (stat I nfp) st stop) fun r s1 ⟨hr, I1⟩ => ?_
      subst hr
      exact seg_end (.ok .next) ⟨rfl, _, H, I1, qe⟩
    · refine thn (T.item G rfl rfl rfl hcalm i [] s _ H _ I (stat I nfp) st go) fun r s1 ⟨u, hr, h1⟩ => ?_
      subst hr
      refine seg_bind_wrap ?_
      rw [over_gen, hA]
      refine thn h1 fun _ s2 ⟨x, H2, I2, r2, y2, st2, n2⟩ => ?_
      have I2' := I2.pinned (stat I2 n2) (T.obj _ _ st2)
      refine seg_bind_wrap ?_
      rw [over_gen, hA]
      have pgr := pg.run _ s2 _ H2 x u _ I2' r2 (step x H2 y2)
      rw [hxe] at pgr
      refine thnF pgr fun _ s3 ⟨σ3, H3, I3, hw3, q3⟩ => ?_
      refine seg_bind_wrap ?_
      rw [over_gen, hA]
      simp only [List.forIn_nil]
      refine wpAny_pure ?_
      simp only [if_true]
      have hy : ∀ v, yieldOut G.env v = yieldValue v := fun v => by simp only [yieldOut, hco, Bool.false_eq_true, if_false]
      simp only [hy]
      rw [Sem.bind_eq_wrap', Sem.bind_eq_wrap', Sem.wrap_wrap, Sem.wrap_wrap]
      refine seg_wrap ?_
      rw [over_gen, hA]
      have per := pe.run _ s3 σ3 H3 _ I3 q3
      rw [hxe] at per
      refine thnF per fun v s4 ⟨yv, H4, I4, r4, b, ey, q4⟩ => ?_
      subst ey
      have ev : v = .bool b := r4
      subst ev
      refine seg_at (seg_yield rfl rfl rfl ⟨b, σ3, H4, rfl, I4.unpinned (pins := []), ?_⟩)
      by_cases hb : b = sv
      · rw [if_pos hb] at q4 ⊢
        exact q4
      · rw [if_neg hb] at q4 ⊢
        intro s5 z
        obtain ⟨m', hm, w'⟩ := hNx H4 q4
        have pin' : ∀ b ∈ fp, ∀ o, s2.heap.get? b = some o → s4.heap.get? b = some o ∧ H4 b = none := fun b hb o e =>
          let z := I4.pin (b, o) (List.mem_append_right _ (List.mem_append_right _ (mem_pinsAt hb e)))
          ⟨z.1, z.2.1⟩
        have hl : (wipe σ vs).length = σ3.length := by rw [← hw3, wipe_length]
        have I5 : Inv G [] (wipe σ vs) H4 s4 := (I4.unpinned (pins := [])).weak hl fun j v e => by
          rw [← hw3] at e
          exact (wipe_some e).1
        refine seg_again rfl (ih m' hm n (i + 1) s5 s5 H4 (by omega) w' (inv_slp I5 z) ?_ fun b hb => ?_)
        · rw [z.heap]
          exact T.keep _ _ _ st2 fun b hb o e => (pin' b hb o e).1
        · obtain ⟨o, e, _⟩ := T.obj _ _ st2 b hb
          exact (pin' b hb o e).2
theorem seg_start {n i : Nat} {s₀ s : Shared} (T : Turn G.prog G.w G.K tg J fp it tn) (st : tn i s.heap)
    (loop : Seg (model G.prog G.w) A₁ (AR G Qe) (AY G sv Qs) n s₀ (.compLoop (.GeneratorExp elt [⟨tg, iter, [], 0⟩] scope pos) 0 (.ref it) .none G.env) ((model G.prog G.w).den (.compLoop (.GeneratorExp elt [⟨tg, iter, [], 0⟩] scope pos) 0 (.ref it) .none G.env)) [] s) :
    Seg (model G.prog G.w) A₁ (AR G Qe) (AY G sv Qs) n s₀ (.compStart (.GeneratorExp elt [⟨tg, iter, [], 0⟩] scope pos) 0 (.ref it) .none G.env)
      ((model G.prog G.w).den (.compStart (.GeneratorExp elt [⟨tg, iter, [], 0⟩] scope pos) 0 (.ref it) .none G.env)) [] s := by
  show Seg _ A₁ _ _ _ s₀ _ ((compStart (.GeneratorExp elt [⟨tg, iter, [], 0⟩] scope pos) 0 (.ref it) .none G.env).onRaise (leaving G.env)) [] s
  unfold compStart
  rw [Sem.onRaise_eq_wrap]
  show Seg _ A₁ _ _ _ s₀ _ ((ask >>= _).wrap _ _ _ _) [] s
  refine seg_bind_wrap (wpAny_askSetting ?_)
  split
  · exact seg_again rfl loop
  · first
      | exact seg_bind_wrap (wpAny_rule (seg_bind_wrap (wpAny_standAt (seg_bind_wrap (T.self _ i s _ _ st (seg_again rfl loop))))))
      | (refine seg_bind_wrap (wpAny_rule ?_); show Seg _ A₁ _ _ _ s₀ _ ((standAt iter.pos >>= _).wrap _ _ _ _) [] s; exact seg_bind_wrap (wpAny_standAt (seg_bind_wrap (T.self _ i s _ _ st (seg_again rfl loop)))))
end

/-! ### the consumer -/
/-- the generator at a, its state, woken once more -/
def GAt (G : Cx) (A₁ : Around) (a : Addr) (gi : Nat) (sv : Bool) (Qs Qe : Hp → Prop) (n : Nat) (s : Shared) : Prop :=
  s.heap.IsGen a gi ∧ s.heap.NoLimit ∧ AllBare s.gens ∧ ∃ gs, s.gens[gi]? = some gs ∧ gs.Goes (model G.prog G.w) A₁ (AR G Qe) (AY G sv Qs) n (.send .none) (s.setGen gi .running)
/-- how it ends: the state s1 of the generator's frame, then its mark and new objects -/
def Left (G : Cx) (gi : Nat) (Q : Hp → Prop) (s' : Shared) : Prop :=
  ∃ (s1 : Shared) (x : GenState) (h' : Heap) (σ' : L2.St) (H' : Hp), s' = { s1.setGen gi x with heap := h' } ∧ x.bare = true ∧ (∀ b o, s1.heap.get? b = some o → h'.get? b = some o) ∧ Inv G [] σ' H' s1 ∧ Q H'
section
variable {G : Cx} {A : Around} {a : Addr} {gi : Nat} {go : Obj} {sv : Bool} {Qs Qe : Hp → Prop}
theorem next_gen {n : Nat} {s : Shared} {Q : Option Value → Shared → Prop} {E : Value → Shared → Prop} (hh : A.handled = none) (hroom : A.depth < recursionLimit) (hpn : (a, go) ∈ G.pn) (hgo : ∀ h : Heap, h.get? a = some go → h.IsGen a gi)
    (h : GAt G A.in1 a gi sv Qs Qe n s)
    (hs : ∀ s', Left G gi Qs s' → Q (some (.bool sv)) s') (hc : ∀ m s', m < n → GAt G A.in1 a gi sv Qs Qe m s' → Q (some (.bool (!sv))) s') (he : ∀ s', Left G gi Qe s' → Q none s') :
    wpAny (model G.prog G.w) A (pyNext (.ref a)) Q E s := by
  obtain ⟨hg, hl, hb, gs, hgs, hgoes⟩ := h
  have hlt : gi < s.gens.size := by
    rcases Nat.lt_or_ge gi s.gens.size with h' | h'
    · exact h'
    · rw [Array.getElem?_eq_none h'] at hgs; cases hgs
  refine wpAny_gsz (Nat.le_refl s.gens.size) ?_
  refine wpAny_mono (Q := fun r s' => s.gens.size ≤ s'.gens.size → Q r s') (E := fun e s' => s.gens.size ≤ s'.gens.size → E e s') ?_ (fun _ _ z => z) (fun _ _ z => z)
  refine wpAny_pyNext_genexpQ (P := fun n s₀ s₁ => ∃ σ' H', Inv G [] σ' H' s₁ ∧ Qe H') (Y := AY G sv Qs) hh hl hroom hg hgs hgoes (fun v s₁ gs' hbg hv hsz => ?_) (fun s₁ hp h' hk hsz => ?_)
  · obtain ⟨b, σ', H', rfl, I, q⟩ := hv
    by_cases e : b = sv
    · rw [if_pos e] at q
      subst e
      exact hs _ ⟨s₁, gs', s₁.heap, σ', H', rfl, hbg, fun _ _ z => z, I, q⟩
    · rw [if_neg e] at q
      have eb : b = !sv := by cases b <;> cases sv <;> simp_all
      subst eb
      cases n with
      | zero => exact (q s₁ ⟨rfl, rfl, I.bare⟩).elim
      | succ m =>
        have hlt1 : gi < s₁.gens.size := by
          rw [setGen_size] at hsz
          omega
        have hself : (s₁.setGen gi gs').gens[gi]? = some gs' := by simp [Shared.setGen, hlt1]
        refine hc m _ (Nat.lt_succ_self m) ⟨hgo _ (I.pin (a, go) (List.mem_append_left _ hpn)).1, I.nolimit, allBare_setGen I.bare hbg, gs', hself, q _ ⟨rfl, rfl, allBare_setGen (allBare_setGen I.bare hbg) rfl⟩⟩
  · obtain ⟨σ', H', I, q⟩ := hp
    exact he _ ⟨s₁, .finished, h', σ', H', rfl, rfl, hk, I, q⟩

theorem all_loop {R : Result → Shared → Prop} (hh : A.handled = none) (hroom : A.depth < recursionLimit) (hpn : (a, go) ∈ G.pn) (hgo : ∀ h : Heap, h.get? a = some go → h.IsGen a gi)
    (hs : ∀ s', Left G gi Qs s' → R (.ok (.ret (.bool false))) s') (he : ∀ s', Left G gi Qe s' → R (.ok (.ret (.bool true))) s') :
    ∀ (n : Nat) (s : Shared), GAt G A.in1.in1 a gi false Qs Qe n s → codeAny (model G.prog G.w) A (.builtin "all.loop" ⟨[.ref a], []⟩) R s := by
  intro n
  induction n using Nat.strongRecOn with
  | ind n ih =>
    intro s h
    refine codeAny_builtin F.entry_all_loop ?_
    rw [Around.under_plainId F.plain_all_loop _]
    show wpAny _ A.in1 (pyNext (.ref a) >>= _) _ _ s
    refine wpAny_bind (next_gen (A := A.in1) hh hroom hpn hgo h (fun s' hl => ?_) (fun m s' hm hg => ?_) (fun s' hl => ?_))
    · refine wpAny_bind (wpAny_holding (wpAny_truthy_bool ?_))
      refine wpAny_bind (wpAny_letGo ?_)
      simp only [Bool.false_eq_true, if_false]
      exact wpAny_bind (wpAny_rule (wpAny_pure (hs s' hl)))
    · refine wpAny_bind (wpAny_holding (wpAny_truthy_bool ?_))
      refine wpAny_bind (wpAny_letGo ?_)
      simp only [Bool.not_false, if_true]
      exact wpAny_pure ⟨plainId_quiet F.plain_all_loop _, ih m hm s' hg⟩
    · exact wpAny_bind (wpAny_rule (wpAny_pure (he s' hl)))
theorem any_loop {R : Result → Shared → Prop} (hh : A.handled = none) (hroom : A.depth < recursionLimit) (hpn : (a, go) ∈ G.pn) (hgo : ∀ h : Heap, h.get? a = some go → h.IsGen a gi)
    (hs : ∀ s', Left G gi Qs s' → R (.ok (.ret (.bool true))) s') (he : ∀ s', Left G gi Qe s' → R (.ok (.ret (.bool false))) s') :
    ∀ (n : Nat) (s : Shared), GAt G A.in1.in1 a gi true Qs Qe n s → codeAny (model G.prog G.w) A (.builtin "any.loop" ⟨[.ref a], []⟩) R s := by
  intro n
  induction n using Nat.strongRecOn with
  | ind n ih =>
    intro s h
    refine codeAny_builtin F.entry_any_loop ?_
    rw [Around.under_plainId F.plain_any_loop _]
    show wpAny _ A.in1 (pyNext (.ref a) >>= _) _ _ s
    refine wpAny_bind (next_gen (A := A.in1) hh hroom hpn hgo h (fun s' hl => ?_) (fun m s' hm hg => ?_) (fun s' hl => ?_))
    · refine wpAny_bind (wpAny_holding (wpAny_truthy_bool ?_))
      refine wpAny_bind (wpAny_letGo ?_)
      simp only [if_true]
      exact wpAny_bind (wpAny_rule (wpAny_pure (hs s' hl)))
    · refine wpAny_bind (wpAny_holding (wpAny_truthy_bool ?_))
      refine wpAny_bind (wpAny_letGo ?_)
      simp only [Bool.not_true, Bool.false_eq_true, if_false]
      exact wpAny_pure ⟨plainId_quiet F.plain_any_loop _, ih m hm s' hg⟩
    · exact wpAny_bind (wpAny_rule (wpAny_pure (he s' hl)))
end

/-! ### the generator is made -/
def Made (X : Cx) (pins : List (Addr × Obj)) (σ : L2.St) (tg iter elt : Expr) (scope : Scope) (gpos : Pos) (P : Addr) (J : It) (H2 : Hp) (a : Addr) (s5 : Shared) : Prop :=
  ∃ (gi : Nat) (go : Obj) (it : Addr) (fp : List Addr) (tn : Nat → Heap → Prop) (s4 : Shared) (H4 : Hp) (code : Value),
    Tabbed P H2 H4 ∧ Inv X pins σ H4 s4 ∧ Turn X.prog X.w X.K tg J fp it tn ∧ tn 0 s5.heap ∧ (∀ b ∈ fp, FpOk X pins H4 b ∧ b < s4.heap.objs.size) ∧
    s5.heap.get? a = some go ∧ (∀ h : Heap, h.get? a = some go → h.IsGen a gi) ∧ (∀ v, go.data ≠ .cell v) ∧ s4.heap.objs.size < a ∧ (∀ b o, s4.heap.get? b = some o → s5.heap.get? b = some o) ∧ s5.os = s4.os ∧ AllBare s5.gens ∧
    (∃ m, s5.heap.Ns s4.heap.objs.size m) ∧
    s5.gens[gi]? = some (.fresh (.compStart (.GeneratorExp elt [⟨tg, iter, [], 0⟩] scope gpos) 0 (.ref it) .none (genEnv scope (cloFrom X.env.cells scope.names []) s4.heap.objs.size code builtinsNs X.env)))
section
variable {X : Cx} {pins : List (Addr × Obj)} {σ : L2.St} {H : Hp} {s : Shared} {c P : Addr} {elt tg iter : Expr} {gpos : Pos} {scope : Scope} {own : List (Str × Nat)} {wi : TI} {R : It → Hp → Prop}
theorem gen_make {k : Nat} {Q' : Value → Shared → Prop} (hr : Room k X.A) (TB : TabB X.base X.mg c P) (hcode : X.env.code = .ref c) (ok : GBlk X.N X.env.scope scope own) (hi : PI X tg iter wi) (hs : ∀ v, genFold iter X.env v = pure v)
    (I : Inv X pins σ H s) (h : wi σ H fun J H1 => TabG H1 P ∧ R J H1) (hQ : ∀ J H1 a s5, R J H1 → Made X pins σ tg iter elt scope gpos P J H1 a s5 → Q' (.ref a) s5) :
    wpAny (model X.prog X.w) X.A (eval (.GeneratorExp elt [⟨tg, iter, [], 0⟩] scope gpos) X.env) Q' X.xe s := by
  have hfree : ∀ y ∈ scope.names, y.2 = .free → ∃ c, X.env.cells.lookup y.1 = some c := fun y hy e => by
    rcases ok.free y hy e with k | k
    · exact I.ok.has _ (.inl k)
    · exact I.ok.has _ (.inr k)
  refine wpAny_GeneratorExp_make ok.co (closure_ok hfree) ok.nocell ok.dot ok.kind (by have := hr.dp; omega) ?_ hs
  refine thn (hi.run pins s σ H _ I h) fun xv s1 h1 => thn h1 fun itv s2 h2 => ?_
  obtain ⟨it, fp, tn, J, H2, e, I2, T, st2, f2, ⟨ps, hP, ht⟩, hR⟩ := h2
  subst e
  refine ⟨I2.nolimit, ?_⟩
  have hPs : s2.heap.get? P = some { cls := .none, data := .fields ps } := I2.hok P _ hP
  have hPlt : P < s2.heap.objs.size := Heap.lt_size hPs
  have cd : PySem.W.CodeHd s2.heap c P := TB.code.keeps fun b u e => I2.bk b u e
  have fpP : ∀ b ∈ fp, b ≠ P := fun b hb z => by
    have := (f2 b hb).1
    rw [z, hP] at this
    cases this
  have flt : ∀ b ∈ fp, b < s2.heap.objs.size := fun b hb => by
    obtain ⟨o, e, _⟩ := T.obj _ _ st2 b hb
    exact Heap.lt_size e
  have cont : ∀ (code : Value) (h3 : Heap) (tk : Nat) (ps' : Array Value), Heap.ExtBut P s2.heap h3 → s2.heap.objs.size ≤ h3.objs.size → h3.get? P = some { cls := .none, data := .fields ps' } → (∃ more, ps' = ps ++ more) → TriplesOk ps'.toList →
      wpAny (model X.prog X.w) X.A (builtinsFor X.env.globals X.env.builtins) (fun bi s₄ =>
        ∀ h', h'.Ns s₄.heap.objs.size (fun y => if y = ".0" then some (.ref it) else none) → Heap.SameBut s₄.heap.objs.size (s₄.heap.push { cls := .type "frame", data := .dict #[] }) h' →
          Q' (.ref h'.objs.size) { s₄ with
            gens := s₄.gens.push (.fresh (.compStart (.GeneratorExp elt [⟨tg, iter, [], 0⟩] scope gpos) 0 (.ref it) .none (genEnv scope (cloFrom X.env.cells scope.names []) s₄.heap.objs.size code bi X.env))),
            toks := s₄.toks + 1 + 1 + 1,
            heap := h'.push { cls := .type "generator", data := .fields #[.int s₄.gens.size 0, .str "<genexpr>" (s₄.toks + 1), .str (X.env.qual ++ "<genexpr>") (s₄.toks + 1 + 1)] } }) X.xe { s2 with heap := h3, toks := tk } := by
    intro code h3 tk ps' hx hsz hP3 hmore ht3
    obtain ⟨more, em⟩ := hmore
    obtain ⟨bm, ob, e1, e2, e3, e4, e5, e6, e7, e8⟩ := TB.bm
    have keep3 : ∀ b u, b ≠ P → s2.heap.get? b = some u → h3.get? b = some u := fun b u hb e => hx b u hb e
    refine wpAny_builtinsFor (m := X.mg) (by rw [I2.ok.glob]; exact ((I2.mod.glob.keeps I2.bk)).extBut hx TB.gP) e1 e2 (keep3 _ _ e4 (I2.bk _ _ e5)) e6 e7 e8 ?_
    intro h' hns hsb
    -- the state ahead of the frame
    have I3 : Inv X pins σ (upd H2 P (.tbl (ps ++ more))) { s2 with heap := h3, gens := s2.gens, drawn := s2.drawn, toks := tk } := inv_tab (more := more) I2 hP keep3 (by rw [← em]; exact hP3) I2.bare
    have hszh : h'.objs.size = h3.objs.size + 1 := by rw [hsb.1, Heap.size_push]
    have k4 : ∀ b o, h3.get? b = some o → h'.get? b = some o := fun b o e => hsb.extBut b o (Nat.ne_of_lt (Heap.lt_size e)) (Heap.get?_push_of_some _ e)
    have k5 : ∀ b o, h3.get? b = some o → (h'.push { cls := .type "generator", data := .fields #[.int s2.gens.size 0, .str "<genexpr>" (tk + 1), .str (X.env.qual ++ "<genexpr>") (tk + 1 + 1)] }).get? b = some o := fun b o e => Heap.get?_push_of_some _ (k4 b o e)
    refine hQ J H2 _ _ hR ⟨s2.gens.size, { cls := .type "generator", data := .fields #[.int s2.gens.size 0, .str "<genexpr>" (tk + 1), .str (X.env.qual ++ "<genexpr>") (tk + 1 + 1)] }, it, fp, tn, { s2 with heap := h3, gens := s2.gens, drawn := s2.drawn, toks := tk }, upd H2 P (.tbl (ps ++ more)), code,
      ⟨⟨ps ++ more, upd_same, by rw [← em]; exact ht3⟩, fun b hb => upd_ne hb⟩, I3, T, ?_, fun b hb => ⟨⟨?_, (f2 b hb).2⟩, Nat.lt_of_lt_of_le (flt b hb) hsz⟩, Heap.get?_push_size _ rfl, fun h e => ⟨_, _, _, e, rfl, rfl, rfl⟩, (fun v z => by cases z), ?_, k5, rfl, AllBare.push I2.bare rfl, ⟨_, hns.push _⟩, Array.getElem?_push_size ..⟩
    · exact T.keep _ _ _ st2 fun b hb o e => k5 b o (keep3 b o (fpP b hb) e)
    · rw [upd_ne (fpP b hb)]
      exact (f2 b hb).1
    · show h3.objs.size < h'.objs.size
      omega
  cases hf : codeAmong gpos ps.toList with
  | none =>
    refine wpAny_genexprCodeX hcode (cd.code hPs ht) (cd.tab hPs) hf fun c' h' tk hx hge hlt hco' _ htab' _ => ?_
    obtain ⟨o1, vs, f1, tf, fl, tg, inF, tx, tt, op, _, _, _, _, _, _, _, _, _, htr, _⟩ := hco'
    exact cont _ h' tk _ hx (Nat.le_trans hge (Nat.le_of_lt hlt)) htab'.2 ⟨_, rfl⟩ htr
  | some cv =>
    refine wpAny_genexprCode_hit hcode (cd.code hPs ht) hf ?_
    exact cont cv s2.heap s2.toks ps (Heap.ExtBut.refl _ _) (Nat.le_refl _) hPs ⟨#[], by simp⟩ ht

/-- all (sv false), any (sv true) of a generator expression; behind it the def's table may have grown -/
def tGen (sv : Bool) (P : Addr) (wi : TI) (g : TG) (te : TE) (vs : List Nat) : TE := fun σ H Q => wi σ H fun J H1 => TabG H1 P ∧ ∀ H2, Tabbed P H1 H2 →
  ∃ W : Nat → Nat → Hp → Prop, (∃ m, W 0 m H2) ∧ TurnR J g te (wipe σ vs) vs sv (Q (.bl sv)) (Q (.bl (!sv))) W

variable {g : TG} {te : TE} {k : Nat} {p pos : Pos}
/-- what the consumer starts from -/
theorem made_at {J : It} {H1 : Hp} {a : Addr} {s5 : Shared} {sv : Bool} {Q : VK} (hr : Room (k + 3) X.A) (hN : X.N.Nodup) (ok : GBlk X.N X.env.scope scope own)
    (hg : ∀ (A : Around) (s : Shared) (H : Hp) (C : Addr) (cl : List (Str × Addr)) (code : Value) (fp : List Addr) (pn : List (Addr × Obj)), Room k A → PG (gcx X A s H (genEnv scope cl C code builtinsNs X.env) fp pn) tg g)
    (he : ∀ (A : Around) (s : Shared) (H : Hp) (C : Addr) (cl : List (Str × Addr)) (code : Value) (fp : List Addr) (pn : List (Addr × Obj)), Room k A → PE (gcx X A s H (genEnv scope cl C code builtinsNs X.env) fp pn) elt te)
    (hM : Made X pins σ tg iter elt scope gpos P J H1 a s5)
    (hq : ∀ H2, Tabbed P H1 H2 → ∃ W : Nat → Nat → Hp → Prop, (∃ m, W 0 m H2) ∧ TurnR J g te (wipe σ (own.map (·.2))) (own.map (·.2)) sv (Q (.bl sv)) (Q (.bl (!sv))) W) :
    ∃ (G : Cx) (gi : Nat) (go : Obj) (n : Nat), G.prog = X.prog ∧ G.w = X.w ∧ (a, go) ∈ G.pn ∧ (∀ h : Heap, h.get? a = some go → h.IsGen a gi) ∧ s5.heap.IsGen a gi ∧ GAt G X.A.in1.in1 a gi sv (Q (.bl sv)) (Q (.bl (!sv))) n s5 ∧
      ∀ (b : Bool) s', Left G gi (Q (.bl b)) s' → EP X pins σ Q (.bool b) s' := by
  obtain ⟨gi, go, it, fp, tn, s4, H4, code, hT, I4, T, st, hfp, ga, hgo, hnc, hlt, kp, os, hb, hns, hgs⟩ := hM
  obtain ⟨W, ⟨m, w0⟩, turn⟩ := hq H4 hT
  have hrG : Room k (X.A.in1.in1.deeper (genEnv scope (cloFrom X.env.cells scope.names []) s4.heap.objs.size code builtinsNs X.env)) := Room.deeper (Room.in1 (Room.in1 (k := k + 2) hr)) _
  have hfr : (X.A.in1.in1.deeper (genEnv scope (cloFrom X.env.cells scope.names []) s4.heap.objs.size code builtinsNs X.env)).frames = some (genEnv scope (cloFrom X.env.cells scope.names []) s4.heap.objs.size code builtinsNs X.env :: X.stack) := Around.frames_deeper (A := X.A.in1.in1) I4.ok.frames
  have IG := gen_start (own := own) (fp := fp) (pn := [(a, go)]) I4 ok hN hfp hrG.hd hfr kp os hb hns (fun p hp => by
    rw [List.mem_singleton.mp hp]
    exact ⟨ga, hlt, hnc⟩)
  have pg := hg _ s4 H4 s4.heap.objs.size (cloFrom X.env.cells scope.names []) code fp [(a, go)] hrG
  have pe := he _ s4 H4 s4.heap.objs.size (cloFrom X.env.cells scope.names []) code fp [(a, go)] hrG
  refine ⟨gcx X (X.A.in1.in1.deeper (genEnv scope (cloFrom X.env.cells scope.names []) s4.heap.objs.size code builtinsNs X.env)) s4 H4 (genEnv scope (cloFrom X.env.cells scope.names []) s4.heap.objs.size code builtinsNs X.env) fp [(a, go)], gi, go, m + 1, rfl, rfl, List.mem_singleton.mpr rfl, hgo, hgo _ ga, ⟨hgo _ ga, IG.nolimit, hb, _, hgs, rfl, ?_⟩, fun b s' hl => ?_⟩
  · refine seg_start (i := 0) T (show tn 0 s5.heap from st) ?_
    refine seg_loop (G := gcx X (X.A.in1.in1.deeper (genEnv scope (cloFrom X.env.cells scope.names []) s4.heap.objs.size code builtinsNs X.env)) s4 H4 (genEnv scope (cloFrom X.env.cells scope.names []) s4.heap.objs.size code builtinsNs X.env) fp [(a, go)])
      rfl ok.co rfl rfl (fun b hb p hp => ?_) T pg pe rfl turn m (m + 1) 0 _ _ H4 (Nat.lt_succ_self m) w0 (inv_slp IG ⟨rfl, rfl, allBare_setGen hb rfl⟩) st fun b hb => (hfp b hb).1.1
    have hp : p ∈ [(a, go)] := hp
    rw [List.mem_singleton.mp hp]
    exact Nat.ne_of_gt (Nat.lt_trans (hfp b hb).2 hlt)
  · obtain ⟨s1, x, h', σ', H', rfl, hx, hk, I6, q⟩ := hl
    have I7 : Inv X pins σ H' s1 := I4.call' (ch := fp) I6.os I6.base I6.hok I6.bare fun b hb => ⟨(hfp b hb).1.2.2.2.1, (hfp b hb).1.2.1, (hfp b hb).1.2.2.2.2.1, (hfp b hb).1.2.2.2.2.2⟩
    exact ⟨.bl b, H', I7.call' (ch := []) rfl (Un.kept hk) (I7.hok.kept hk) (allBare_setGen I6.bare hx) fun b hb => by simp at hb, rfl, q⟩

theorem pe_allG (hr : Room (k + 3) X.A) (hgl : Gl X "all") (hm : X.mg "all" = none) (TB : TabB X.base X.mg c P) (hcode : X.env.code = .ref c) (hN : X.N.Nodup) (ok : GBlk X.N X.env.scope scope own) (hi : PI X tg iter wi)
    (hg : ∀ (A : Around) (s : Shared) (H : Hp) (C : Addr) (cl : List (Str × Addr)) (code : Value) (fp : List Addr) (pn : List (Addr × Obj)), Room k A → PG (gcx X A s H (genEnv scope cl C code builtinsNs X.env) fp pn) tg g)
    (he : ∀ (A : Around) (s : Shared) (H : Hp) (C : Addr) (cl : List (Str × Addr)) (code : Value) (fp : List Addr) (pn : List (Addr × Obj)), Room k A → PE (gcx X A s H (genEnv scope cl C code builtinsNs X.env) fp pn) elt te)
    (hb : bootBuiltins "all" = some (.builtin "all") := by decide +kernel) (hs : ∀ v, genFold iter X.env v = pure v := by intro _; rfl)
    (hst : starEach [.GeneratorExp elt [⟨tg, iter, [], 0⟩] scope gpos] X.env = (false, eval (.GeneratorExp elt [⟨tg, iter, [], 0⟩] scope gpos) X.env) :: starEach [] X.env := by rfl) :
    PE X (.Call (.Name "all" p) [.GeneratorExp elt [⟨tg, iter, [], 0⟩] scope gpos] [] pos) (tGen false P wi g te (own.map (·.2))) := by
  refine ⟨fun pins s σ H Q I h => ?_⟩
  refine wpAny_Call_Name_kw (ld_blt I hgl hm hb ?_)
  refine PyProof.Rows.callWith_builtin1 ?_ hst (by rfl)
  rw [hst]
  show wpAny _ _ (spliced ((false, eval (.GeneratorExp elt [⟨tg, iter, [], 0⟩] scope gpos) X.env) :: backTo pos (starEach [] X.env))) _ _ s
  refine Calls.spliced_cons (gen_make hr TB hcode ok hi hs I h fun J H1 a s5 hR hM => ?_)
  obtain ⟨G, gi, go, n, e1, e2, hpn, hgo, hga, hat, hend⟩ := made_at hr hN ok hg he hM hR
  refine Calls.spliced_nil ?_
  refine call_function_tree F.kind_all F.plain_all F.entry_all (F.args_all1 _) ?_
  unfold Builtin.«all»
  refine wpAny_bind (m := oneArg "all" _) (wpAny_pure ?_)
  refine wpAny_bind (wpAny_pyIter_gen hga ?_)
  refine wpAny_pure ⟨plainId_quiet F.plain_all_loop _, ?_⟩
  have hd := hr.hd
  have hdp := hr.dp
  have L := all_loop (R := fun r s' => ∃ v, r = .ok (.ret v) ∧ EP X pins σ Q v s') (A := X.A) hd (by omega) hpn hgo (fun s' hl => ⟨_, rfl, hend false s' hl⟩) (fun s' hl => ⟨_, rfl, hend true s' hl⟩) n s5 hat
  rw [e1, e2] at L
  refine codeAny_mono L fun r s' hq => ?_
  obtain ⟨v, rfl, q⟩ := hq
  exact q
theorem pe_anyG (hr : Room (k + 3) X.A) (hgl : Gl X "any") (hm : X.mg "any" = none) (TB : TabB X.base X.mg c P) (hcode : X.env.code = .ref c) (hN : X.N.Nodup) (ok : GBlk X.N X.env.scope scope own) (hi : PI X tg iter wi)
    (hg : ∀ (A : Around) (s : Shared) (H : Hp) (C : Addr) (cl : List (Str × Addr)) (code : Value) (fp : List Addr) (pn : List (Addr × Obj)), Room k A → PG (gcx X A s H (genEnv scope cl C code builtinsNs X.env) fp pn) tg g)
    (he : ∀ (A : Around) (s : Shared) (H : Hp) (C : Addr) (cl : List (Str × Addr)) (code : Value) (fp : List Addr) (pn : List (Addr × Obj)), Room k A → PE (gcx X A s H (genEnv scope cl C code builtinsNs X.env) fp pn) elt te)
    (hb : bootBuiltins "any" = some (.builtin "any") := by decide +kernel) (hs : ∀ v, genFold iter X.env v = pure v := by intro _; rfl)
    (hst : starEach [.GeneratorExp elt [⟨tg, iter, [], 0⟩] scope gpos] X.env = (false, eval (.GeneratorExp elt [⟨tg, iter, [], 0⟩] scope gpos) X.env) :: starEach [] X.env := by rfl) :
    PE X (.Call (.Name "any" p) [.GeneratorExp elt [⟨tg, iter, [], 0⟩] scope gpos] [] pos) (tGen true P wi g te (own.map (·.2))) := by
  refine ⟨fun pins s σ H Q I h => ?_⟩
  refine wpAny_Call_Name_kw (ld_blt I hgl hm hb ?_)
  refine PyProof.Rows.callWith_builtin1 ?_ hst (by rfl)
  rw [hst]
  show wpAny _ _ (spliced ((false, eval (.GeneratorExp elt [⟨tg, iter, [], 0⟩] scope gpos) X.env) :: backTo pos (starEach [] X.env))) _ _ s
  refine Calls.spliced_cons (gen_make hr TB hcode ok hi hs I h fun J H1 a s5 hR hM => ?_)
  obtain ⟨G, gi, go, n, e1, e2, hpn, hgo, hga, hat, hend⟩ := made_at hr hN ok hg he hM hR
  refine Calls.spliced_nil ?_
  refine call_function_tree F.kind_any F.plain_any F.entry_any (F.args_any1 _) ?_
  unfold Builtin.«any»
  refine wpAny_bind (m := oneArg "any" _) (wpAny_pure ?_)
  refine wpAny_bind (wpAny_pyIter_gen hga ?_)
  refine wpAny_pure ⟨plainId_quiet F.plain_any_loop _, ?_⟩
  have hd := hr.hd
  have hdp := hr.dp
  have L := any_loop (R := fun r s' => ∃ v, r = .ok (.ret v) ∧ EP X pins σ Q v s') (A := X.A) hd (by omega) hpn hgo (fun s' hl => ⟨_, rfl, hend true s' hl⟩) (fun s' hl => ⟨_, rfl, hend false s' hl⟩) n s5 hat
  rw [e1, e2] at L
  refine codeAny_mono L fun r s' hq => ?_
  obtain ⟨v, rfl, q⟩ := hq
  exact q
end
end GA
set_option maxRecDepth 100000
set_option maxHeartbeats 4000000
/-! sorted of a list, of a dict's keys: tuples of ints of any lengths; enumerate of a tuple -/
namespace SE
open PySem PySem.Spec PyProof.Rows L2

/-! ### the order -/
abbrev encT (q : Addr × List Int) : PyData := .tuple (q.2.map .int)
theorem le_tups : PySem.W.dataLe false encT = fun p q => decide (p.2 ≤ q.2) := by
  funext p q
  show (!PySem.W.dataLt (.tuple (q.2.map .int)) (.tuple (p.2.map .int))) = _
  rw [PySem.W.dataLt_tuple]
  show (!PySem.W.rowLt (q.2.map .int) (p.2.map .int)) = _
  rw [PySem.W.dataLt_ints]
  by_cases h : q.2 < p.2
  · have h' : ¬ p.2 ≤ q.2 := fun r => List.not_lt.mpr r h
    simp [h, h']
  · have h' : p.2 ≤ q.2 := List.not_lt.mp h
    simp [h, h']
/-- tuples at addresses, in their order -/
def srt (L : List (Addr × List Int)) : List (Addr × List Int) := L.mergeSort fun p q => decide (p.2 ≤ q.2)
theorem srt_perm (L : List (Addr × List Int)) : (srt L).Perm L := List.mergeSort_perm ..
theorem srt_len (L : List (Addr × List Int)) : (srt L).length = L.length := (srt_perm L).length_eq
theorem lex_total (a b : List Int) : a ≤ b ∨ b ≤ a := List.le_total a b
theorem lex_trans {a b c : List Int} (h : a ≤ b) (k : b ≤ c) : a ≤ c := List.le_trans h k
theorem srt_sorted (L : List (Addr × List Int)) : (srt L).Pairwise fun p q => p.2 ≤ q.2 := by
  have := List.pairwise_mergeSort (le := fun (p q : Addr × List Int) => decide (p.2 ≤ q.2)) (fun a b c h k => by
    simp only [decide_eq_true_eq] at h k ⊢
    exact lex_trans h k) (fun a b => by
    simp only [Bool.or_eq_true, decide_eq_true_eq]
    exact lex_total a.2 b.2) L
  exact this.imp fun h => by simpa using h
/-- what is sorted of the same rows is the same -/
theorem srt_same {L M : List (Addr × List Int)} (h : (L.map (·.2)).Perm (M.map (·.2))) : (srt L).map (·.2) = (srt M).map (·.2) := by
  have hl : ((srt L).map (·.2)).Pairwise (· ≤ ·) := by
    rw [List.pairwise_map]
    exact srt_sorted L
  have hm : ((srt M).map (·.2)).Pairwise (· ≤ ·) := by
    rw [List.pairwise_map]
    exact srt_sorted M
  refine List.Perm.eq_of_pairwise (fun a b _ _ h1 h2 => List.le_antisymm h1 h2) hl hm ?_
  exact (((srt_perm L).map _).trans h).trans ((srt_perm M).map _).symm

/-! ### sorted of a list -/
section
variable {s : Shared} {X : Cx} {pins : List (Addr × Obj)} {σ : L2.St} {H : Hp}
theorem alike_tups (bs : List (Addr × List Int)) : PySem.W.AllAlike (bs.map encT) := PySem.W.AllAlike.of fun b b' => by
  show PySem.W.alike (.tuple (b.2.map .int)) (.tuple (b'.2.map .int)) = true
  simp only [PySem.W.alike, PySem.W.alike_ints]
theorem sortable_tups {bs : List (Addr × List Int)} (h : ∀ b ∈ bs, b.2 ≠ []) : PySem.W.Sortable (bs.map encT) := .inl fun d hd => by
  obtain ⟨b, hb, rfl⟩ := List.mem_map.mp hd
  obtain ⟨a, l⟩ := b
  cases l with
  | nil => exact absurd rfl (h _ hb)
  | cons x r => exact ⟨.int x, r.map .int, rfl⟩
theorem depth_tup (b : Addr × List Int) : (encT b).depth ≤ 1 := by
  show PyData.depth (.tuple (b.2.map .int)) ≤ 1
  simp only [PyData.depth, PySem.W.depth_ints]
  omega
theorem reads_ints {h : Heap} : ∀ {its : List Value} {ns : List Int}, Vals (ns.map V.int) its → ReadsAll h its (ns.map .int) []
  | _, [], r => by
    cases r
    exact .nil
  | _, n :: ns, r => by
    cases r with
    | cons a t =>
      obtain ⟨u, rfl⟩ := a
      exact ReadsAll.cons (as := []) (bs := []) (.int n u) (reads_ints t)
theorem reads_tup (I : Inv X pins σ H s) {a : Addr} {ns : List Int} (h : H a = some (.tup (ns.map V.int))) : ∃ as, Reads s.heap (.ref a) (.tuple (ns.map .int)) as ∧ as = [] := by
  obtain ⟨_, its, r, o, e, c, n, d⟩ := I.hok a _ h
  exact ⟨[], .tuple e c d (by simpa using reads_ints r), rfl⟩
theorem each_refs : ∀ L : List (Addr × List Int), PySem.W.EachIs (fun (v : Value) (b : Addr × List Int) => v = .ref b.1) (L.map fun q => Value.ref q.1) L
  | [] => .nil
  | _ :: r => .cons rfl (each_refs r)
theorem each_reads (I : Inv X pins σ H s) : ∀ {L : List (Addr × List Int)}, (∀ p ∈ L, H p.1 = some (.tup (p.2.map V.int))) → PySem.W.EachIs (fun (v : Value) (b : Addr × List Int) => ∃ as, Reads s.heap v (encT b) as ∧ as = []) (L.map fun q => Value.ref q.1) L
  | [], _ => .nil
  | p :: r, h => .cons (reads_tup I (h p List.mem_cons_self)) (each_reads I fun q hq => h q (List.mem_cons_of_mem _ hq))
theorem of_each : ∀ {out : List Value} {L : List (Addr × List Int)}, PySem.W.EachIs (fun (v : Value) (b : Addr × List Int) => v = .ref b.1) out L → out = L.map fun q => Value.ref q.1
  | _, _, .nil => rfl
  | _, _, .cons e t => by rw [e, of_each t]; rfl
theorem vals_of_refs : ∀ (L : List (Addr × List Int)), Vals (L.map fun q => V.ref q.1) (L.map fun q => Value.ref q.1)
  | [] => .nil
  | _ :: r => .cons rfl (vals_of_refs r)
theorem vals_refs_eq : ∀ {L : List (Addr × List Int)} {us : List Value}, Vals (L.map fun q => V.ref q.1) us → us = L.map fun q => Value.ref q.1
  | [], _, .nil => rfl
  | _ :: _, _, .cons a t => by
    have e : _ = Value.ref _ := a
    rw [e, vals_refs_eq t]
    rfl
def rSortT : List V → Hp → VK → Prop := fun vs H Q => ∃ (a : Addr) (L : List (Addr × List Int)), vs = [V.ref a] ∧ H a = some (.lst (L.map fun q => V.ref q.1)) ∧ (∀ p ∈ L, H p.1 = some (.tup (p.2.map V.int))) ∧ (∀ p ∈ L, p.2 ≠ []) ∧
  ∀ p, H p = none → Q (.ref p) (upd H p (.lst ((srt L).map fun q => V.ref q.1)))
theorem cr_sortT (hu : X.A.units + 64 < cLine) : CallR X (.builtin "sorted") rSortT := by
  intro pins s σ H vs us Q I r h
  obtain ⟨a, L, rfl, ha, hT, hne, q⟩ := h
  rw [Vals.ref1 r]
  obtain ⟨its, rv, hl, hz⟩ := I.list (SqL.of (K := X.K) ha)
  rw [List.length_map] at hz
  obtain rfl := vals_refs_eq rv
  refine PySem.W.sorted_data (enc := encT) (R := fun (v : Value) (b : Addr × List Int) => v = .ref b.1) (bs := L) hl.isList (each_refs L) ((each_reads I hT).mono fun _ _ ⟨as, r, _⟩ => ⟨as, r⟩) (alike_tups L) (sortable_tups hne) hz
    (fun b _ => by have := depth_tup b; omega) fun out ho he => ?_
  rw [le_tups] at he
  have eo := of_each he
  obtain ⟨ep, he'⟩ := PyProof.Rows.sortedAll_at s.heap (L.map fun q => Value.ref q.1) out.toArray
  refine ⟨.ref _, upd H (s.heap.objs.size + 1) (.lst ((srt L).map fun q => V.ref q.1)), I.laid (t' := s.toks) (fun _ _ => PyProof.Rows.sortedAll_old) (Nat.le_succ _) ⟨by rw [List.length_map, srt_len]; exact hz, out, ep, ?_, he'⟩, rfl, q _ (I.hok.fresh (Nat.le_succ _))⟩
  rw [eo]
  exact vals_of_refs _

/-! ### sorted of a dict whose keys are tuples of ints -/
/-- the keys as ints -/
def kI (k : List Int) : List Key := k.map Sum.inl
theorem kI_kV (k : List Int) : (kI k).map kV = k.map V.int := by
  unfold kI
  rw [List.map_map]
  rfl
def rSortDT : List V → Hp → VK → Prop := fun vs H Q => ∃ (d : Addr) (ks : List (List Int)) (w : V), vs = [V.ref d] ∧ H d = some (.dT (ks.map fun k => (kI k, w))) ∧ (∀ k ∈ ks, k ≠ []) ∧
  ∀ (L : List (Addr × List Int)) (p : Addr), L.map (·.2) = ks → (∀ q ∈ L, H q.1 = some (.tup (q.2.map V.int))) → H p = none → Q (.ref p) (upd H p (.lst ((srt L).map fun q => V.ref q.1)))
theorem pairs_of {H : Hp} {w : V} : ∀ {ks : List (List Int)} {xs : List (List Key × Addr × Value)}, Paired (fun (p : List Key × V) (q : List Key × Addr × Value) => p.1 = q.1 ∧ H q.2.1 = some (.tup (p.1.map kV)) ∧ RelV p.2 q.2.2) (ks.map fun k => (kI k, w)) xs →
    ∃ L : List (Addr × List Int), L.map (·.2) = ks ∧ (∀ q ∈ L, H q.1 = some (.tup (q.2.map V.int))) ∧ (xs.map fun x => Value.ref x.2.1) = L.map fun q => Value.ref q.1
  | [], _, r => by
    cases r
    exact ⟨[], rfl, (fun _ h => nomatch h), rfl⟩
  | k :: ks, _, r => by
    cases r with
    | @cons p x ps xs h t =>
      obtain ⟨L, h1, h2, h3⟩ := pairs_of t
      refine ⟨(x.2.1, k) :: L, by rw [List.map_cons, h1], fun q hq => ?_, by rw [List.map_cons, List.map_cons, h3]⟩
      rcases List.mem_cons.mp hq with e | e
      · subst e
        have := h.2.1
        rw [kI_kV] at this
        exact this
      · exact h2 q e
theorem cr_sortDT (hc : X.calm = true) (hu : X.A.units + 64 < cLine) : CallR X (.builtin "sorted") rSortDT := by
  intro pins s σ H vs us Q I r h
  obtain ⟨d, ks, w, rfl, hd, hne, q⟩ := h
  rw [Vals.ref1 r]
  obtain ⟨z, hs, xs, pr, o, es, ep, ho, hx, hdt, he, hn⟩ := (show ObjOk X.prog X.w H s.heap d (.dT (ks.map fun k => (kI k, w))) from I.hok d _ hd)
  obtain ⟨L, hL1, hL2, hL3⟩ := pairs_of pr
  have l1 : es.size = xs.length := size_of_entries he
  have l2 : (ks.map fun k => (kI k, w)).length = xs.length := Paired.length pr
  have h16 : es.size ≤ sizeLine := by rw [l1, ← l2]; exact z
  refine Calls.call_function_entry PyProof.Rows.kind_sorted PyProof.Rows.plain_sorted PyProof.Rows.entry_sorted (PyProof.Rows.args_sorted1 _) ?_
  unfold Builtin.«sorted»
  refine wpAny_bind (m := checkCount "sorted" 1 1 _) (wpAny_pure ?_)
  refine wpAny_bind (PySem.W.kdu_collect (A := X.A.in1) (kdl_raw hs hx hdt) (I.ok.hd hc) ho h16 fun h' tk acc hk it => ?_)
  have ea : acc.toList = L.map fun q => Value.ref q.1 := by
    rw [← hL3]
    have hl : acc.toList.length = xs.length := by rw [Array.length_toList, it.1]; exact l1
    apply List.ext_getElem?
    intro j
    rw [List.getElem?_map]
    cases hj : acc.toList[j]? with
    | none =>
      have h1 := List.getElem?_eq_none_iff.mp hj
      rw [List.getElem?_eq_none (by omega)]
      rfl
    | some v =>
      obtain ⟨en, hen, hv⟩ := it.2 j v (by rw [← Array.getElem?_toList]; exact hj)
      have qe := entry_at he j
      rw [hen] at qe
      cases hb : xs[j]? with
      | none =>
        rw [hb] at qe
        exact nomatch (show some en = none from qe)
      | some b =>
        rw [hb] at qe
        have e2 : en = entryOfKey (tupleKind (mixKind X.prog X.w)) b := Option.some.inj qe
        rw [hv, e2]
        rfl
  have hLl : L.length ≤ sizeLine := by
    have e1 := congrArg List.length hL1
    rw [List.length_map] at e1
    rw [e1]
    rw [List.length_map] at z
    exact z
  have hneL : ∀ p ∈ L, p.2 ≠ [] := fun p hp => hne p.2 (by rw [← hL1]; exact List.mem_map.mpr ⟨p, hp, rfl⟩)
  have I1 : Inv X pins σ H { s with heap := h', toks := tk } := I.kept hk
  refine wpAny_bind (wpAny_newList ?_ (by rw [ea, List.length_map]; exact hLl))
  have hoL : (h'.push (seqObj "list" acc.toList.toArray 0)).get? h'.objs.size = some (seqObj "list" acc.toList.toArray 0) := Heap.get?_push_size _ rfl
  show wpAny _ _ _ _ _ { s with heap := h'.push (seqObj "list" acc.toList.toArray 0), toks := tk }
  rw [ea] at hoL ⊢
  have I2 : Inv X pins σ H { s with heap := h'.push (seqObj "list" (L.map fun q => Value.ref q.1).toArray 0), toks := tk } := I1.kept (t' := tk) fun b o e => Heap.get?_push_of_some _ e
  refine wpAny_bind (wpAny_holding (PySem.W.list_sort_data (s := { s with heap := h'.push (seqObj "list" (L.map fun q => Value.ref q.1).toArray 0), toks := tk }) (enc := encT) (R := fun (v : Value) (b : Addr × List Int) => v = .ref b.1) (bs := L) hoL (each_refs L)
    ((each_reads I2 hL2).mono fun _ _ ⟨as, r, e⟩ => ⟨as, r, by rw [e]; simp⟩) (alike_tups L) (sortable_tups hneL) hLl (fun b _ => by have := depth_tup b; show X.A.in1.units + 1 + _ < _; have e : X.A.in1.units = X.A.units + 1 := rfl; omega) fun out ho' he' => ?_))
  rw [le_tups] at he'
  have eo := of_each he'
  obtain ⟨e', he2⟩ := PyProof.Rows.sortedHeap_at (vs := L.map fun q => Value.ref q.1) (out := out.toArray) hoL
  refine wpAny_pure ⟨_, rfl, .ref h'.objs.size, upd H h'.objs.size (.lst ((srt L).map fun q => V.ref q.1)), I1.laid (t' := tk) (fun b u e => ?_) (Nat.le_refl _)
    ⟨by rw [List.length_map, srt_len]; exact hLl, out, e', by rw [eo]; exact vals_of_refs _, he2⟩, rfl, q L _ hL1 hL2 (I1.hok.fresh (Nat.le_refl _))⟩
  have hb : b < h'.objs.size := Heap.lt_size e
  rw [PyProof.Rows.sortedHeap_old (Nat.ne_of_lt hb) (by rw [size_push']; exact Nat.lt_succ_of_lt hb)]
  exact Heap.get?_push_of_some _ e
end

/-! ### enumerate of a tuple -/
theorem newEnum {v : Value} {o : Obj} {F : Heap → Prop} (B : Begins v o F) :
    Meets (Builtin.«enumerate.__new__» ⟨[.type "enumerate", v], []⟩) (fun _ R s => F s.heap ∧
      R (.ok (.ret (.ref (s.heap.push o).objs.size))) { s with heap := (s.heap.push o).push { cls := .type "enumerate", data := .fields #[.none, .bool false, .ref s.heap.objs.size, rawInt 0, .none, .none] } }) :=
  .of_wp fun prog w A R s h => by
    obtain ⟨hp, g, d, tk, os⟩ := s; obtain ⟨h1, h⟩ := h
    have hsub := sub_enumerate
    have q1 : ∀ {A' : Around} {E : Value → Shared → Prop} {Q : Value → Shared → Prop}, Q (.ref hp.objs.size) ⟨hp.push o, g, d, tk, os⟩ → wpAny (model prog w) A' (pyIter v) Q E ⟨hp, g, d, tk, os⟩ :=
      fun q => B.iter prog w _ _ ⟨hp, g, d, tk, os⟩ _ h1 q
    wp_walk using q1
    refine wpAny_stack_any fun st => wpAny_pure ?_
    split
    · rename_i c _ _ _ _ _
      cases (c == Value.type "enumerate")
      · wp_walk using q1
        exact ⟨_, rfl, h⟩
      · wp_walk using q1
        exact ⟨_, rfl, h⟩
    · wp_walk using q1
      exact ⟨_, rfl, h⟩
theorem enum_of {prog : Program} {w : World} {A : Around} {E : Value → Shared → Prop} {s : Shared} {v : Value} {o : Obj} {F : Heap → Prop} {Q : Value → Shared → Prop} (B : Begins v o F) (h1 : F s.heap)
    (h : ∀ h', IsEnum h' (s.heap.objs.size + 1) s.heap.objs.size 0 .none → h'.get? s.heap.objs.size = some o →
      (∀ b o, s.heap.get? b = some o → h'.get? b = some o) → Q (.ref (s.heap.objs.size + 1)) { s with heap := h' }) :
    wpAny (model prog w) A (call (.type "enumerate") [v]) Q E s := by
  refine callType_new PySem.F.called_enumerate (by decide) (PySem.F.typeCall_enumerate_1 _) (PySem.F.newCall_enumerate_1 _) (fun obj => PySem.F.args_object_init_2 obj _) PySem.F.entry_enumerate_new (newEnum B) ⟨h1, ?_⟩
  have hz : (s.heap.push o).objs.size = s.heap.objs.size + 1 := Heap.size_push ..
  show _ ∧ _
  rw [hz]
  have he : IsEnum ((s.heap.push o).push { cls := .type "enumerate", data := .fields #[.none, .bool false, .ref s.heap.objs.size, rawInt 0, .none, .none] }) (s.heap.objs.size + 1) s.heap.objs.size 0 .none := by
    have e := Heap.get?_push_size (s.heap.push o) (o := { cls := .type "enumerate", data := .fields #[.none, .bool false, .ref s.heap.objs.size, rawInt 0, .none, .none] }) rfl
    rw [hz] at e
    exact e
  exact ⟨⟨_, he, rfl⟩, h _ he (Heap.get?_push_of_some _ (Heap.get?_push_size _ B.free)) fun b o x => Heap.get?_push_of_some _ (Heap.get?_push_of_some _ x)⟩
/-- the tuple at a, each item in a new pair -/
def IteT (a : Addr) (xs : List V) : It :=
  ⟨fun i H => H a = some (.tup xs) ∧ i < xs.length, fun i H v H' => ∃ T x, v = .ref T ∧ H T = none ∧ H' = upd H T (.tup [.int (i : Nat), x]) ∧ xs[i]? = some x, fun i H => H a = some (.tup xs) ∧ i = xs.length⟩
theorem turn_enumT {P : Program} {w : World} {K : PySem.W.Frag} {elts : List Expr} {kk : Nat} {tpos : Pos} {xs : List V} (a e it : Addr) :
    Turn P w K (.Tuple elts kk tpos) (IteT a xs) [e, it] e (fun i h => (∃ old, IsEnum h e it ((i : Nat) : Int) old) ∧ h.IsTupleIter it a i ∧ e ≠ it) where
  mem := by simp
  obj := fun i h st b hb => by
    obtain ⟨⟨old, he⟩, ⟨o, ho, hc, hd⟩, _⟩ := st
    have e' : b = e ∨ b = it := by simpa using hb
    rcases e' with z | z
    · rw [z]; exact ⟨_, he, fun v q => nomatch q⟩
    · rw [z]; exact ⟨o, ho, fun v q => by rw [hd] at q; cases q⟩
  keep := fun i h h' st k => let ⟨⟨old, he⟩, hi, hne⟩ := st; ⟨⟨old, k e (by simp) _ he⟩, hi.at fun o q => k it (by simp) o q, hne⟩
  item := by
    intro X hP hw hK hc i pins s σ H E I hf st hg
    subst hP hw hK
    obtain ⟨⟨old, he⟩, hit, hne⟩ := st
    obtain ⟨hq, hx⟩ := hg
    obtain ⟨its, rv, p, hz⟩ := I.tuple (SqT.of (K := X.K) hq)
    have hel : e < s.heap.objs.size := Heap.lt_size he
    have hil : it < s.heap.objs.size := by obtain ⟨_, q, _⟩ := hit; exact Heap.lt_size q
    have hae : e ≠ a := fun z => by
      have := (hf e (by simp)).1
      rw [z, hq] at this
      cases this
    have hai : a ≠ it := fun z => by
      have := (hf it (by simp)).1
      rw [← z, hq] at this
      cases this
    have hl := rv.length
    refine wpAny_pyNext_enum_itemD (Draws.tuple (A := X.A.in1) (I.ok.hd hc) it a hai its.toArray) (i := i) he ⟨hit, p⟩ (by simp; omega) hne (by simp [hne, hae]) fun u h' tk hu ho hst hT hsz hk => ?_
    refine ⟨_, rfl, wpAny_letOwnedTupleGo_enum (s := { s with heap := h', toks := tk + 1 }) ho fun h'' he' sb => ?_⟩
    have hT2 : h''.get? s.heap.objs.size = some { cls := .type "tuple", data := .seq #[.int i tk, u] } := (sb.2 _ (Nat.ne_of_gt hel)).trans hT
    have hxi : xs[i]? = some xs[i] := List.getElem?_eq_getElem hx
    have ru : RelV xs[i] u := by
      obtain ⟨u', hu', r'⟩ := rv.get hxi
      have : its[i]? = some u := by simpa using hu
      rw [this] at hu'
      cases hu'
      exact r'
    have new : ObjOk X.prog X.w (upd H s.heap.objs.size (.tup [.int (i : Nat), xs[i]])) h'' s.heap.objs.size (.tup [.int (i : Nat), xs[i]]) :=
      ⟨by show 2 ≤ sizeLine; decide, [.int i tk, u], .cons ⟨_, rfl⟩ (.cons ru .nil), ⟨_, hT2, rfl, _, rfl⟩⟩
    have I1 : Inv X pins σ (upd H s.heap.objs.size (.tup [.int (i : Nat), xs[i]])) { s with heap := h'', toks := tk + 1 } :=
      I.turnedNew (ch := [e, it]) (fun b ob hb q => (sb.2 b (fun z => hb (by simp [z]))).trans (hk b ob (fun z => hb (by simp [z])) (fun z => hb (by simp [z])) q)) hf (Nat.le_refl _) new
    refine ⟨.ref s.heap.objs.size, _, I1, rfl, ⟨_, xs[i], rfl, I.hok.fresh (Nat.le_refl _), rfl, hxi⟩, ⟨⟨u, ?_⟩, hst.1.at fun o q => (sb.2 it (Ne.symm hne)).trans q, hne⟩, fun b hb => ?_⟩
    · have e1 : ((i + 1 : Nat) : Int) = (i : Int) + 1 := by omega
      rw [e1]; exact he'
    · have hb' : b < s.heap.objs.size := by
        have e' : b = e ∨ b = it := by simpa using hb
        rcases e' with z | z
        · rw [z]; exact hel
        · rw [z]; exact hil
      rw [upd_ne (Nat.ne_of_lt hb')]
      exact (hf b hb).1
  done := by
    intro X hP hw hK hc i pins s σ H E I hf st hg
    subst hP hw hK
    obtain ⟨⟨old, he⟩, hit, hne⟩ := st
    obtain ⟨hq, hx⟩ := hg
    obtain ⟨its, rv, p, hz⟩ := I.tuple (SqT.of (K := X.K) hq)
    obtain ⟨f0, f1, f2, f3, f4, f5⟩ := hf it (by simp)
    have hai : a ≠ it := fun z => by
      rw [← z, hq] at f0
      cases f0
    have hl := rv.length
    have hit' : s.heap.IsTupleIter it a its.toArray.size := by
      have e1 : its.toArray.size = i := by simp; omega
      rw [e1]
      exact hit
    exact wpAny_pyNext_enum_endD (Draws.tuple (A := X.A.in1) (I.ok.hd hc) it a hai its.toArray) he ⟨hit', p⟩ fun h' eb => ⟨rfl, I.turned (t' := s.toks) (fun b o hb q => eb b o hb q) f0 f1 f3 f4 f5⟩
  self := fun A i s Q E st h => let ⟨⟨_, he⟩, _⟩ := st; wpAny_pyIter_enum he h
def iEnumT (ta : TA) : TI := fun σ H R => ta σ H fun vs H1 => ∃ a xs, vs = [.ref a] ∧ H1 a = some (.tup xs) ∧ R (IteT a xs) H1
theorem pi_enumT {X : Cx} {e : Expr} {ta : TA} {p pos tpos : Pos} {elts : List Expr} {kk : Nat} (hg : Gl X "enumerate") (hm : X.mg "enumerate" = none) (ha : PA X [e] ta) (hs : starEach [e] X.env = [(false, eval e X.env)] := by rfl) :
    PI X (.Tuple elts kk tpos) (.Call (.Name "enumerate" p) [e] [] pos) (iEnumT ta) := by
  refine ⟨fun pins s σ H R I h => ?_⟩
  refine Call_ (ld_blt I hg hm boot_enumerate (PyProof.Rows.callWith_type1 (thn (ha.run pos pins s σ H _ I h) fun us s1 ⟨vs, H1, I1, r1, q1⟩ => ?_) hs rfl))
  obtain ⟨a, xs, ex, hq, q⟩ := q1
  subst ex
  cases r1 with
  | cons r rr =>
    cases rr
    cases r
    obtain ⟨its, rv, p', hz⟩ := I1.tuple (SqT.of (K := X.K) hq)
    refine enum_of (begins_tuple a its.toArray) p' fun h' he hit hk => wpAny_pyIter_enum he ?_
    have I2 : Inv X pins σ H1 { s1 with heap := h' } := I1.kept (t' := s1.toks) hk
    refine ⟨s1.heap.objs.size + 1, [s1.heap.objs.size + 1, s1.heap.objs.size], _, _, H1, rfl, I2, turn_enumT a (s1.heap.objs.size + 1) s1.heap.objs.size, ⟨⟨.none, he⟩, ⟨_, hit, rfl, rfl⟩, Nat.succ_ne_self _⟩, fun b hb => ?_, q⟩
    have e' : b = s1.heap.objs.size + 1 ∨ b = s1.heap.objs.size := by simpa using hb
    have hle : s1.heap.objs.size ≤ b := by
      rcases e' with z | z
      · rw [z]; exact Nat.le_add_right _ _
      · rw [z]; exact Nat.le_refl _
    exact I1.fpOk hle (I1.hok.fresh hle)
theorem walk_enumT {a : Addr} {xs : List V} : Walk (IteT a xs) xs.length (fun H => H a = some (.tup xs)) (YPair (fun i => some (.int (i : Nat))) (fun i => xs[i]?)) := by
  refine ⟨fun i _ hi q => ⟨q, hi⟩, fun _ q => ⟨q, rfl⟩, fun i H v H' _ q y => ?_⟩
  obtain ⟨T, x, h1, h2, h3, h4⟩ := y
  exact ⟨T, .int (i : Nat), x, h1, h2, h3, rfl, h4⟩
end SE
set_option maxRecDepth 100000
set_option maxHeartbeats 4000000
/-! tuple * 1, and tuple * n for n of at least one -/
namespace TO
open PySem PySem.Spec PyProof.Rows L2
theorem tuple_mulOne (l : Addr) (items : Array Value) (n : Nat) (dd : Option Addr) (sl : Array (Option Value)) (u : Tok) (c1 : (items.isEmpty || (1 : Int) == 1) = true) :
    Meets (Builtin.«tuple.__mul__» ⟨[.ref l, .int 1 u], []⟩) (fun _ R s => s.heap.get? l = some { cls := .type "tuple", dict := dd, data := .seq items n, slots := sl } ∧ R (.ok (.ret (Value.ref l))) s) :=
  .of_wp fun prog w A R s h => by
    obtain ⟨hp, g, d, tk, os⟩ := s
    obtain ⟨hl, h⟩ := h
    have f1 := AutoSeq1.idx_int
    wp_walk using wpAny_loadPart' hl
    repeat (first
      | (refine wpAny_ite_true (decide_eq_true c1) ?_; wp_walk using wpAny_loadPart' hl)
      | (refine wpAny_ite_false (decide_eq_false (by decide)) ?_; wp_walk using wpAny_loadPart' hl))
    exact ⟨_, rfl, h⟩
def rRepA (K : PySem.W.Frag) : V → V → Hp → VK → Prop := fun x y H Q => ∃ l k xs, x = .ref l ∧ y = .int k ∧ SqT K H l xs ∧ xs ≠ [] ∧ 1 ≤ k ∧ k ≤ 1000 ∧ xs.length ≤ 1000 ∧ (k = 1 → Q (.ref l) H) ∧ (k ≠ 1 → ∀ p, H p = none → Q (.ref p) (upd H p (.tup (List.replicate k.toNat xs).flatten)))
theorem op_repA {X : Cx} : OpR X (binaryOp .Mult) (rRepA X.K) := by
  intro pins s σ H x y v u Q I rx ry h
  obtain ⟨l, k, xs, rfl, rfl, hT, hne, h1, h2, hz, q1, q2⟩ := h
  by_cases hk : k = 1
  · subst hk
    cases rx
    obtain ⟨t, rfl⟩ := ry
    obtain ⟨its, r, ⟨⟨cls, dd, data, sl⟩, ho, hc, n, hd⟩, hs⟩ := I.tuple hT
    simp only at hc hd
    subst hc hd
    have c1 : (its.toArray.isEmpty || (1 : Int) == 1) = true := by
      rw [show ((1 : Int) == 1) = true from rfl, Bool.or_true]
    exact wpAny_binaryOp_repeat_ref (T := "tuple") (U := "int") (by decide) ⟨_, ho, rfl⟩ (fun s' => typeIs_int s' 1 t) noFill_tuple_mul F.fills_int_mul F.slot_int_rmul repeat_tuple F.slot_int_index.lookup
      (call_meets F.slot_int_rmul (typeIs_int s 1 t) F.entry_int_rmul (F.args_int_rmul_2 _ _) (int_rmul_tuple 1 t l its.toArray n dd sl)
        ⟨ho, rfl, ⟨_, ho, rfl⟩, call_meets F.slot_tuple_mul ⟨_, ho, rfl⟩ F.entry_tuple_mul (F.args_tuple_mul_2 _ _) (tuple_mulOne l its.toArray n dd sl t c1) ⟨ho, .ref l, H, I, rfl, q1 rfl⟩⟩)
  · exact op_repT pins s σ H (.ref l) (.int k) v u Q I rx ry ⟨l, k, xs, rfl, rfl, hT, hne, by omega, h2, hz, q2 hk⟩
end TO
set_option maxRecDepth 100000
set_option maxHeartbeats 4000000
/-! the heap, webs, the text by places -/
namespace BD
open PySem PySem.Spec PyProof.Rows L2 GxR BM
abbrev topS (i : Nat) : Stmt := PySem.Challenge.pw_bellcopies_k18_whole_winners.main.body.getD i (.Pass ⟨0, 0, 0, 0⟩)

/-! ### what stays -/
structure Kp (H H' : Hp) : Prop where
  at_ : ∀ b o, H b = some o → (∀ ps, o ≠ .tbl ps) → H' b = some o
  tab : ∀ P, TabG H P → TabG H' P
  live : ∀ b, H' b = none → H b = none
theorem Kp.refl (H : Hp) : Kp H H := ⟨fun _ _ h _ => h, fun _ h => h, fun _ h => h⟩
theorem Kp.trans {H H1 H2 : Hp} (a : Kp H H1) (b : Kp H1 H2) : Kp H H2 := ⟨fun c o h n => b.at_ c o (a.at_ c o h n) n, fun P h => b.tab P (a.tab P h), fun c h => a.live c (b.live c h)⟩
theorem Kp.tup {H H' : Hp} (k : Kp H H') {a : Addr} {xs : List V} (h : H a = some (.tup xs)) : H' a = some (.tup xs) := k.at_ a _ h fun _ z => nomatch z
theorem Kp.lst {H H' : Hp} (k : Kp H H') {a : Addr} {xs : List V} (h : H a = some (.lst xs)) : H' a = some (.lst xs) := k.at_ a _ h fun _ z => nomatch z
theorem Kp.dK {H H' : Hp} (k : Kp H H') {a : Addr} {xs : List (Key × V)} (h : H a = some (.dK xs)) : H' a = some (.dK xs) := k.at_ a _ h fun _ z => nomatch z
theorem Kp.dT {H H' : Hp} (k : Kp H H') {a : Addr} {xs : List (List Key × V)} (h : H a = some (.dT xs)) : H' a = some (.dT xs) := k.at_ a _ h fun _ z => nomatch z
/-- a store at what was not tracked at first -/
theorem Kp.put {H H1 : Hp} (k : Kp H H1) {p : Addr} {o : HO} (h : H p = none) : Kp H (upd H1 p o) := by
  refine ⟨fun b x e n => ?_, fun P t => ?_, fun b e => ?_⟩
  · rw [upd_ne (ne_of_none e h)]
    exact k.at_ b x e n
  · obtain ⟨ps, e, r⟩ := t
    obtain ⟨ps', e', r'⟩ := k.tab P ⟨ps, e, r⟩
    exact ⟨ps', by rw [upd_ne (ne_of_none e h)]; exact e', r'⟩
  · by_cases hb : b = p
    · rw [hb]; exact h
    · rw [upd_ne hb] at e
      exact k.live b e
theorem Kp.new {H : Hp} {p : Addr} {o : HO} (h : H p = none) : Kp H (upd H p o) := (Kp.refl H).put h
theorem Kp.add {H H1 : Hp} (k : Kp H H1) {p : Addr} {o : HO} (h : H1 p = none) : Kp H (upd H1 p o) := k.put (k.live p h)
theorem Kp.tabbed {H H' : Hp} {P : Addr} (h : TabG H P) (t : Tabbed P H H') : Kp H H' := by
  obtain ⟨ps, e, _⟩ := h
  refine ⟨fun b o q n => ?_, fun Q g => ?_, fun b q => ?_⟩
  · have hb : b ≠ P := fun z => by
      rw [z, e] at q
      exact n ps (Option.some.inj q).symm
    rw [t.2 b hb]; exact q
  · by_cases hq : Q = P
    · rw [hq]; exact t.1
    · obtain ⟨ps', e', r'⟩ := g
      exact ⟨ps', by rw [t.2 Q hq]; exact e', r'⟩
  · by_cases hb : b = P
    · obtain ⟨ps', e', _⟩ := t.1
      rw [hb, e'] at q
      cases q
    · rw [t.2 b hb] at q
      exact q
theorem Kp.ne {H H1 : Hp} (k : Kp H H1) {a p : Addr} {o : HO} (h : H a = some o) (hp : H1 p = none) : a ≠ p := ne_of_none h (k.live p hp)

/-! ### webs -/
abbrev vN (x : Nat) : V := .int (x : Int)
abbrev vNs (l : List Nat) : List V := l.map fun (x : Nat) => V.int (x : Int)
structure WebAt (H : Hp) (a b : Addr) (ts : List Addr) (n : Nat) (arcs : Arcs) : Prop where
  top : H a = some (.tup [.int (n : Int), .ref b])
  row : H b = some (.tup (ts.map V.ref))
  len : ts.length = arcs.length
  arc : ∀ (i : Nat) (t : Addr) (r : Nat × Nat), ts[i]? = some t → arcs[i]? = some r → H t = some (.tup [vN r.1, vN r.2])
theorem WebAt.kp {H H' : Hp} {a b : Addr} {ts : List Addr} {n : Nat} {arcs : Arcs} (w : WebAt H a b ts n arcs) (k : Kp H H') : WebAt H' a b ts n arcs :=
  ⟨k.tup w.top, k.tup w.row, w.len, fun i t r e1 e2 => k.tup (w.arc i t r e1 e2)⟩
theorem WebAt.at_ {H : Hp} {a b : Addr} {ts : List Addr} {n : Nat} {arcs : Arcs} (w : WebAt H a b ts n arcs) {i : Nat} {x : V} (h : (ts.map V.ref)[i]? = some x) : ∃ t r, x = .ref t ∧ ts[i]? = some t ∧ arcs[i]? = some r ∧ H t = some (.tup [vN r.1, vN r.2]) := by
  rw [List.getElem?_map] at h
  cases e : ts[i]? with
  | none => rw [e] at h; cases h
  | some t =>
    rw [e] at h
    have hx : V.ref t = x := Option.some.inj h
    have hi : i < ts.length := (List.getElem?_eq_some_iff.mp e).1
    have hi2 : i < arcs.length := by rw [← w.len]; exact hi
    refine ⟨t, arcs[i], hx.symm, rfl, List.getElem?_eq_getElem hi2, w.arc i t _ e (List.getElem?_eq_getElem hi2)⟩
theorem small64' {n : Nat} (h : n ≤ 1000) : n ≤ sizeLine := Nat.le_trans h (by decide)

/-! ### what the module's names hold -/
structure Names (mg : Str → Option Value) : Prop where
  isi : mg "isinstance" = none
  tuple : mg "tuple" = none
  len : mg "len" = none
  all : mg "all" = none
  any : mg "any" = none
  int : mg "int" = none
  bool : mg "bool" = none
  str : mg "str" = none
  list : mg "list" = none
  dict : mg "dict" = none
  range : mg "range" = none
  enumerate : mg "enumerate" = none
  sorted : mg "sorted" = none
  people : ∃ t, mg "MOST_PEOPLE" = some (.int 6 t)
  arcs : ∃ t, mg "MOST_ARCS" = some (.int 12 t)

/-! ### a def whose code object is known -/
structure FunC (K : PySem.W.Frag) (x qual : Str) (st : Stmt) (f : Addr) (fd : FuncData) (c : Addr) : Prop where
  ex : ∃ (oc : Value) (od : Option Addr) (kV doc pm : Value) (an : Option Addr) (ct : Value) (osl : Array (Option Value)),
    fd = PySem.W.fnOf x qual (defArgs st) (defBody st) (defScope st) .none kV doc pm an (.ref c) ct ∧ K.lookup f = some ⟨oc, od, .func fd, osl⟩ ∧ PySem.W.codeIn K (.ref c) qual = true
  kp : PySem.W.keepIn K (.ref f) = true
section
variable {P : Program} {w : World} {K : PySem.W.Frag} {mg : Str → Option Value} {base : Heap} {x qual : Str} {st : Stmt} {f c : Addr} {fd : FuncData} {N ps : List Str} {k : Nat} {sp : Sp}
theorem FunC.ok (F : FunC K x qual st f fd c) (S : FnScope N ps (defScope st)) (len : ∀ vs H Q E, sp vs H Q E → vs.length = ps.length)
    (body : ∀ (A : Around) (outer : List Env) (s : Shared) (H : Hp) (vs : List V) (Q : VK) (E : XK), Room k (A.deeper (envOfC qual (defScope st) s.heap.objs.size f (.ref c))) → sp vs H Q E →
      ∃ t, PSs (cxOf CX0 P w K mg base N qual (defScope st) f (.ref c) A outer s H E).nox (defBody st) t ∧ t { nx := fun _ H' => Q .non H', rt := Q } (start N vs) H) : FnOk P w K mg base CX0 (k + 1) f fd ps sp := by
  obtain ⟨oc, od, kV, doc, pm, an, ct, osl, rfl, lk, hcd⟩ := F.ex
  refine fn_of lk hcd S len fun A outer s H vs Q E hr hsp => ?_
  obtain ⟨t, h, q⟩ := body A outer s H vs Q E hr hsp
  exact ⟨t, h.nox, q⟩
theorem FunC.toFun (F : FunC K x qual st f fd c) : Fun K x qual st f fd := by
  obtain ⟨oc, od, kV, doc, pm, an, ct, osl, e, lk, hcd⟩ := F.ex
  exact ⟨⟨oc, od, kV, doc, pm, an, .ref c, ct, osl, e, lk, hcd⟩, F.kp⟩
end
/-! ### a generator expression's scope, by a check -/
def gC (N : List Str) (sc scope : Scope) (own : List (Str × Nat)) : Bool :=
  decide (scope.kind = .function) && !scope.isCoroutine && scope.names.all (fun y => !decide (y.2 = .cell)) && decide (scope.names.lookup (".0" : Str) = some NameKind.local) && own.all (fun p => decide (N[p.2]? = some p.1)) &&
    scope.names.all (fun y => !decide (y.2 = .free) || (decide (sc.names.lookup y.1 = some .cell) || decide (sc.names.lookup y.1 = some .free))) &&
    scope.names.all (fun y => !decide (y.2 = .local) || (decide (y.1 ∈ own.map (·.1)) || !decide (y.1 ∈ N)))
theorem gblk_by {N : List Str} {sc scope : Scope} {own : List (Str × Nat)} (h : gC N sc scope own = true) : GA.GBlk N sc scope own := by
  unfold gC at h
  simp only [Bool.and_eq_true, List.all_eq_true, decide_eq_true_eq, Bool.not_eq_true', Bool.or_eq_true, decide_eq_false_iff_not] at h
  obtain ⟨⟨⟨⟨⟨⟨h1, h2⟩, h3⟩, h4⟩, h5⟩, h6⟩, h7⟩ := h
  exact ⟨h1, h2, h3, h4, h5, fun y hy e => (h6 y hy).resolve_left fun z => z e, fun y hy e => (h7 y hy).resolve_left fun z => z e⟩
theorem ite_no {c A B : Prop} [Decidable c] (h : ¬ c) (k : B) : if c then A else B := by
  rw [if_neg h]
  exact k
theorem ite_yes {c A B : Prop} [Decidable c] (h : c) (k : A) : if c then A else B := by
  rw [if_pos h]
  exact k
/-! ### the reading of any, all -/
theorem gen_it {J : It} {n : Nat} {G : Hp → Prop} {Y : Nat → Hp → V → Hp → Prop} (w : Walk J n G Y) {g : TG} {te : TE} {σw : L2.St} {vs : List Nat} {sv : Bool} {Qs Qe : Hp → Prop} {H : Hp} (Pv : Nat → Hp → Prop) (h0 : Pv 0 H) (hG : ∀ i H, i ≤ n → Pv i H → G H)
    (hs : ∀ i x H H', i < n → Pv i H → Y i H x H' → g x σw H' fun σ2 H2 => wipe σ2 vs = σw ∧ te σ2 H2 fun y H3 => ∃ b, y = .bl b ∧ if b = sv then Qs H3 else Pv (i + 1) H3) (hd : ∀ H, Pv n H → Qe H) :
    ∃ W : Nat → Nat → Hp → Prop, (∃ m, W 0 m H) ∧ GA.TurnR J g te σw vs sv Qs Qe W := by
  refine ⟨fun i m H => m = n - i ∧ i ≤ n ∧ Pv i H, ⟨n, by simp, Nat.zero_le _, h0⟩, ?_⟩
  rintro i m H ⟨rfl, hi, p⟩
  have q := hG i H hi p
  by_cases hlt : i < n
  · exact .inr ⟨w.goes i H hlt q, Pv (i + 1), fun H' p' => ⟨n - (i + 1), by omega, rfl, hlt, p'⟩, fun x H' y => hs i x H H' hlt p (w.yields i H x H' hlt q y)⟩
  · have e : i = n := by omega
    subst e
    exact .inl ⟨w.stops H q, hd H p⟩

/-! ### a dict comprehension over a walk -/
theorem dc_it {J : It} {n : Nat} {G : Hp → Prop} {Y : Nat → Hp → V → Hp → Prop} (w : Walk J n G Y) {g : TG} {tt : TT} {tk tv : TE} {vs : List Nat} {σ : L2.St} {H1 : Hp} {D : Addr} {Qd : Hp → Prop} (Pv : Nat → Hp → Prop) (h0 : Pv 0 (upd H1 D (.dK []))) (hG : ∀ i H, i ≤ n → Pv i H → G H)
    (hs : ∀ i x H H', i < n → Pv i H → Y i H x H' → g x (wipe σ vs) H' fun σ2 H2 => wipe σ2 vs = wipe σ vs ∧ tt σ2 H2 fun b H3 =>
      if b = true then tk σ2 H3 fun y H4 => tv σ2 H4 fun z H5 => ∃ kvs k, y = kV k ∧ H5 D = some (.dK kvs) ∧ kvs.length < sizeLine ∧ Pv (i + 1) (upd H5 D (.dK (putK kvs k z))) else Pv (i + 1) H3) (hd : ∀ H, Pv n H → Qd H) :
    ∃ W : Nat → Nat → Hp → Prop, (∃ m, W 0 m (upd H1 D (.dK []))) ∧ ∀ i m H, W i m H →
      (J.stop i H ∧ Qd H) ∨ (J.go i H ∧ ∃ Nx : Hp → Prop, (∀ H', Nx H' → ∃ m', m' < m ∧ W (i + 1) m' H') ∧ ∀ x H', J.yld i H x H' → g x (wipe σ vs) H' fun σ2 H2 => wipe σ2 vs = wipe σ vs ∧ tt σ2 H2 fun b H3 =>
        if b = true then tk σ2 H3 fun y H4 => tv σ2 H4 fun z H5 => ∃ kvs k, y = kV k ∧ H5 D = some (.dK kvs) ∧ kvs.length < sizeLine ∧ Nx (upd H5 D (.dK (putK kvs k z))) else Nx H3) := by
  refine ⟨fun i m H => m = n - i ∧ i ≤ n ∧ Pv i H, ⟨n, by simp, Nat.zero_le _, h0⟩, ?_⟩
  rintro i m H ⟨rfl, hi, p⟩
  have q := hG i H hi p
  by_cases hlt : i < n
  · exact .inr ⟨w.goes i H hlt q, Pv (i + 1), fun H' p' => ⟨n - (i + 1), by omega, rfl, hlt, p'⟩, fun x H' y => hs i x H H' hlt p (w.yields i H x H' hlt q y)⟩
  · have e : i = n := by omega
    subst e
    exact .inl ⟨w.stops H q, hd H p⟩
/-! ### a dict as a set -/
abbrev seenD (l : List Nat) : List (Key × V) := l.map fun (x : Nat) => (Sum.inl (x : Int), V.bl true)
theorem seenD_val (x : Nat) : ∀ l : List Nat, valV (seenD l) (Sum.inl (x : Int)) = if x ∈ l then some (.bl true) else none
  | [] => rfl
  | y :: l => by
    show valV ((Sum.inl (y : Int), V.bl true) :: seenD l) _ = _
    by_cases h : y = x
    · subst h
      rw [valV_pos (p := (Sum.inl (y : Int), V.bl true)) rfl, if_pos List.mem_cons_self]
    · have h' : ¬ ((Sum.inl (y : Int) : Key) = Sum.inl (x : Int)) := fun z => h (by have := Sum.inl.inj z; omega)
      rw [valV_neg (p := (Sum.inl (y : Int), V.bl true)) h', seenD_val x l]
      by_cases hm : x ∈ l
      · rw [if_pos hm, if_pos (List.mem_cons_of_mem _ hm)]
      · rw [if_neg hm, if_neg (fun z => (List.mem_cons.mp z).elim (fun e => h e.symm) hm)]
theorem seenD_has (x : Nat) (l : List Nat) : (valV (seenD l) (Sum.inl (x : Int))).isSome = decide (x ∈ l) := by
  rw [seenD_val]
  by_cases h : x ∈ l <;> simp [h]
theorem seenD_put {x : Nat} {l : List Nat} (h : x ∉ l) : putK (seenD l) (Sum.inl (x : Int)) (.bl true) = seenD (l ++ [x]) := by
  rw [putK_new _ (by rw [seenD_val, if_neg h])]
  show _ = (l ++ [x]).map _
  rw [List.map_append]
  rfl
theorem vNs_snoc (l : List Nat) (x : Nat) : vNs l ++ [vN x] = vNs (l ++ [x]) := by
  show _ = (l ++ [x]).map _
  rw [List.map_append]
  rfl

/-! ### rules whose reading names the written part: for blocks -/
section
variable {X : Cx}
theorem ixT (K : PySem.W.Frag) (h : X.K = K := by rfl) : IxR X (rIxT K) := h ▸ ix_tup
theorem ixL (K : PySem.W.Frag) (h : X.K = K := by rfl) : IxR X (rIxL K) := h ▸ ix_list
theorem inS (K : PySem.W.Frag) (h : X.K = K := by rfl) : OpR X (compareOp .In) (rIn K false) := h ▸ op_in_seq
theorem notInS (K : PySem.W.Frag) (h : X.K = K := by rfl) : OpR X (compareOp .NotIn) (rIn K true) := h ▸ op_notIn_seq
theorem lenS (K : PySem.W.Frag) (h : X.K = K := by rfl) : CallR X (.builtin "len") (fun xs H Q => ∃ p ys, xs = [.ref p] ∧ (SqL K H p ys ∨ SqT K H p ys) ∧ Q (.int ys.length) H) := h ▸ call_len_seq
theorem pgT (K : PySem.W.Frag) {es : List Expr} {k : Nat} {pos : Pos} {t : TGs} {n : Nat} (h : X.K = K) (hc : X.calm = true) (hp : PGs X es t) (hn : (assignEach es X.env).length = n := by rfl) (hst : (assignEach es X.env).findIdx? (·.1) = none := by rfl) : PG X (.Tuple es k pos) (gTup K n t) := h ▸ pg_tup hc hp hn hst
theorem paStar (K : PySem.W.Frag) {e : Expr} {es : List Expr} {p : Pos} {te : TE} {t : TA} (h : X.K = K) (he : PE X e te) (hr : PA X es t) (hs : starEach (.Starred e p :: es) X.env = (true, eval e X.env) :: starEach es X.env := by rfl) : PA X (.Starred e p :: es) (StX.tStar K te t) := h ▸ StX.pa_star he hr hs
end
end BD
set_option maxRecDepth 100000
set_option maxHeartbeats 4000000
namespace BD
open PySem PySem.Spec PyProof.Rows L2 GxR BM
section
variable {P : Program} {w : World} {K : PySem.W.Frag} {mg : Str → Option Value} {base : Heap}
abbrev sIsIn : Stmt := topS 5
theorem scIsIn : FnScope ["value", "least", "most"] ["value", "least", "most"] (defScope sIsIn) := ⟨rfl, rfl, rfl, by decide +kernel, rfl, by decide +kernel, by decide +kernel⟩
def spIsIn : Sp := fun vs H Q _ => ∃ v lo hi : Int, vs = [.int v, .int lo, .int hi] ∧ Q (.bl (decide (lo ≤ v) && decide (v ≤ hi))) H
theorem ok_isIn {f : Addr} {fd : FuncData} (N : Names mg) (F : Fun K "is_in" "is_in" sIsIn f fd) : FnOk P w K mg base CX0 1 f fd ["value", "least", "most"] spIsIn := by
  refine F.ok scIsIn (fun vs H Q E h => ?_) (fun cdv A outer s H vs Q E hr h => ?_)
  · obtain ⟨v, lo, hi, rfl, _⟩ := h
    rfl
  · obtain ⟨v, lo, hi, rfl, q⟩ := h
    refine ⟨_, pss_one (ps_ret (pe_and (pe_callB call_isi (by rfl) N.isi boot_isinstance (pa_cons (pv 0) (pa_cons (pe_bltn (v := .ty "int") (by rfl) N.int boot_int rfl) pa_nil)))
      (pe_and (pe_not (pe_callB call_isi (by rfl) N.isi boot_isinstance (pa_cons (pv 0) (pa_cons (pe_bltn (v := .ty "bool") (by rfl) N.bool boot_bool rfl) pa_nil))))
        (pe_one (pe_chain op_le op_le (pv 1) (pv 0) (pv 2)))))), ?_⟩
    refine ⟨.int v, rfl, .int v, .ty "int", .type "int", .type "int", true, rfl, .ty "int", .base (.int v), kit_ty (by decide +kernel), true, rfl, iteT ?_⟩
    refine ⟨.int v, rfl, .int v, .ty "bool", .type "int", .type "bool", false, rfl, .ty "bool", .base (.int v), kit_ty (by decide +kernel), false, rfl, true, rfl, iteT ?_⟩
    refine ⟨.int lo, rfl, .int v, rfl, lo, v, rfl, rfl, _, rfl, ite2 (fun e => ?_) (fun e => ?_)⟩
    · refine ⟨.int hi, rfl, v, hi, rfl, rfl, ?_⟩
      rw [e, Bool.true_and] at q
      exact q
    · rw [Bool.eq_false_iff.mpr e, Bool.false_and] at q
      exact q

/-! ### is_arc -/
abbrev sIsArc : Stmt := topS 9
theorem scIsArc : FnScope ["size", "value", "one"] ["size", "value"] (defScope sIsArc) := ⟨rfl, rfl, rfl, by decide +kernel, rfl, by decide +kernel, by decide +kernel⟩
/-- what the tables P and the names say at a call of a def with a generator expression -/
def spIsArc (P : Addr) : Sp := fun vs H Q _ => ∃ (n s g : Nat) (t : Addr), vs = [vN n, .ref t] ∧ H t = some (.tup [vN s, vN g]) ∧ (1 ≤ s ∧ s ≤ n) ∧ (1 ≤ g ∧ g ≤ n) ∧ s ≠ g ∧ TabG H P ∧ ∀ H', Kp H H' → Q (.bl true) H'
theorem ok_isArc {f fI c T : Addr} {fd fdI : FuncData} (N : Names mg) (F : FunC K "is_arc" "is_arc" sIsArc f fd c) (TB : TabB base mg c T)
    (FI : Fun K "is_in" "is_in" sIsIn fI fdI) (bI : Binds K fdI ["value", "least", "most"] []) (gI : mg "is_in" = some (.ref fI)) : FnOk P w K mg base CX0 5 f fd ["size", "value"] (spIsArc T) := by
  have GI : FnOk P w K mg base CX0 1 fI fdI ["value", "least", "most"] spIsIn := ok_isIn N FI
  refine F.ok scIsArc (fun vs H Q E h => ?_) (fun A outer s H vs Q E hr h => ?_)
  · obtain ⟨n, s, g, t, rfl, _⟩ := h
    rfl
  · obtain ⟨n, s1, g1, t, rfl, ht, hs, hg, hne, hT, q⟩ := h
    refine ⟨_, pss_cons (ps_if (PW.pt (pw_or (pt_not (pt_val (pe_callB call_isi (by rfl) N.isi boot_isinstance (pa_cons (pv 1) (pa_cons (pe_bltn (v := .ty "tuple") (by rfl) N.tuple boot_tuple rfl) pa_nil)))))
        (pw_or (pt_cmpR op_ne (pe_callB call_len_seq (by rfl) N.len PySem.boot_len (pa_cons (pv 1) pa_nil)) pe_int (nomark _))
        (pw_or1 (pt_not (pt_val (GA.pe_allG (k := 1) (own := [("one", 2)]) hr (by rfl) N.all TB rfl scIsArc.nd (gblk_by (own := [("one", 2)]) (N := ["size", "value", "one"]) (sc := defScope sIsArc) (by decide +kernel)) (pi_tup (pv 1))
          (fun _ _ _ _ _ _ _ _ _ => pg_name (i := 2) scIsArc.nd rfl (.inl rfl))
          (fun _ _ _ _ _ _ _ _ hr' => pe_call GI hr' (by rfl) gI FI.kp bI .nil pass0 (pa_cons (pv 2) (pa_cons pe_int (pa_cons (pv 0) pa_nil))))))))))) 
        (pss_one (ps_ret pe_bl)) pss_nil)
      (pss_one (ps_ret (pe_cmpR op_ne (pe_ix ix_tup (pv 1) pe_int (fun _ _ => rfl)) (pe_ix ix_tup (pv 1) pe_int (fun _ _ => rfl)) (nomark _)))), ?_⟩
    refine ⟨.ref t, rfl, .ref t, .ty "tuple", .type "tuple", .type "tuple", true, rfl, .ty "tuple", .base (.tup ht), kit_ty (by decide +kernel), true, rfl, iteF ?_⟩
    refine ⟨.ref t, rfl, t, _, rfl, .inr (SqT.of ht), rfl, _, rfl, iteF ?_⟩
    refine ⟨.ref t, rfl, t, rfl, ⟨_, SqT.of ht⟩, hT, fun H2 hH2 => ?_⟩
    have k2 : Kp H H2 := Kp.tabbed hT hH2
    refine gen_it (walk_tup (xs := [vN s1, vN g1])) (fun i H' => H' = H2) rfl (fun i H' _ e => by rw [e]; exact SqT.of (k2.tup ht)) (fun i x H3 H4 hi e y => ?_) (fun H' e => ?_)
    · subst e
      obtain ⟨rfl, hx⟩ := y
      refine ⟨rfl, x, rfl, .int (n : Int), rfl, ?_⟩
      have : ∃ z : Nat, x = vN z ∧ 1 ≤ z ∧ z ≤ n := by
        match i, hi, hx with
        | 0, _, hx => exact ⟨s1, (Option.some.inj hx).symm, hs.1, hs.2⟩
        | 1, _, hx => exact ⟨g1, (Option.some.inj hx).symm, hg.1, hg.2⟩
      obtain ⟨z, rfl, hz1, hz2⟩ := this
      refine ⟨z, 1, n, rfl, true, ?_, ?_⟩
      · have e1 : decide ((1 : Int) ≤ (z : Int)) = true := decide_eq_true (by omega)
        have e2 : decide ((z : Int) ≤ (n : Int)) = true := decide_eq_true (by omega)
        rw [e1, e2]
        rfl
      · exact ite_no (by decide) rfl
    · subst e
      refine ⟨true, rfl, iteF ?_⟩
      refine ⟨.ref t, rfl, t, _, 0, _, rfl, rfl, SqT.of (k2.tup ht), atI_nat (j := 0) rfl, .ref t, rfl, t, _, 1, _, rfl, rfl, SqT.of (k2.tup ht), atI_nat (j := 1) rfl, rfl, ?_⟩
      have e1 : decide (vN s1 = vN g1) = false := decide_eq_false fun z => hne (by have := V.int.inj z; omega)
      rw [e1]
      exact q _ k2
end
end BD
set_option maxRecDepth 100000
set_option maxHeartbeats 4000000
namespace BD
open PySem PySem.Spec PyProof.Rows L2 GxR BM
/-! ### data: ints, pairs, tuples of ints, lists of such -/
abbrev dNs (l : List Nat) : List PyData := l.map fun (x : Nat) => PyData.int (x : Int)
abbrev dT (l : List Nat) : PyData := .tuple (dNs l)
abbrev dP (r : Nat × Nat) : PyData := .tuple [.int (r.1 : Int), .int (r.2 : Int)]
theorem eqv_ns : ∀ l m : List Nat, PyData.eqvAll (dNs l) (dNs m) = decide (l = m)
  | [], [] => by simp [PyData.eqvAll]
  | [], _ :: _ => by simp [PyData.eqvAll]
  | _ :: _, [] => by simp [PyData.eqvAll]
  | x :: l, y :: m => by
    show PyData.eqvAll (.int (x : Int) :: dNs l) (.int (y : Int) :: dNs m) = _
    simp only [PyData.eqvAll, PyData.eqv, eqv_ns l m]
    by_cases h : x = y
    · subst h
      simp
    · have h' : ¬ (x : Int) = (y : Int) := by omega
      simp [h, h']
theorem eqv_T (l m : List Nat) : PyData.eqv (dT l) (dT m) = decide (l = m) := by
  simp only [PyData.eqv]
  exact eqv_ns l m
theorem eqv_P (r q : Nat × Nat) : PyData.eqv (dP r) (dP q) = decide (r = q) := by
  have := eqv_T [r.1, r.2] [q.1, q.2]
  rw [show PyData.eqv (dP r) (dP q) = decide ([r.1, r.2] = [q.1, q.2]) from this]
  obtain ⟨a, b⟩ := r
  obtain ⟨c, d⟩ := q
  simp
theorem lay_ns : ∀ l : List Nat, PyData.canLayAll0 (dNs l) = true
  | [] => by simp [PyData.canLayAll0]
  | x :: l => by
    show PyData.canLayAll0 (.int (x : Int) :: dNs l) = true
    simp only [PyData.canLayAll0, PyData.canLay0, lay_ns l, Bool.and_self]
theorem depth_ns : ∀ l : List Nat, PyData.depthAll (dNs l) = 0
  | [] => by simp [PyData.depthAll]
  | x :: l => by
    show PyData.depthAll (.int (x : Int) :: dNs l) = 0
    simp only [PyData.depthAll, PyData.depth, depth_ns l]
    rfl
theorem depth_T (l : List Nat) : (dT l).depth ≤ 1 := by
  simp only [PyData.depth, depth_ns]
  omega
theorem lay_T (l : List Nat) : (dT l).canLay0 = true := by
  simp only [PyData.canLay0]
  exact lay_ns l
theorem shaped_T (l : List Nat) : SeqAt.shaped (dT l) = true := by
  unfold SeqAt.shaped
  rw [lay_T, Bool.true_and]
  exact decide_eq_true (by have := depth_T l; omega)
theorem lay_each {α : Type} {g : α → PyData} (h : ∀ a, (g a).canLay0 = true) : ∀ l : List α, PyData.canLayAll0 (l.map g) = true
  | [] => by simp [PyData.canLayAll0]
  | x :: l => by
    rw [List.map_cons]
    simp only [PyData.canLayAll0, h x, lay_each h l, Bool.and_self]
theorem depth_each {α : Type} {g : α → PyData} (h : ∀ a, (g a).depth ≤ 1) : ∀ l : List α, PyData.depthAll (l.map g) ≤ 1
  | [] => by simp [PyData.depthAll]
  | x :: l => by
    rw [List.map_cons]
    simp only [PyData.depthAll]
    have h1 := h x
    have h2 := depth_each h l
    omega
theorem shaped_list {α : Type} {g : α → PyData} (h1 : ∀ a, (g a).canLay0 = true) (h2 : ∀ a, (g a).depth ≤ 1) (l : List α) : SeqAt.shaped (.list (l.map g)) = true := by
  unfold SeqAt.shaped
  rw [show (PyData.list (l.map g)).canLay0 = true from by simp only [PyData.canLay0]; exact lay_each h1 l, Bool.true_and]
  refine decide_eq_true ?_
  simp only [PyData.depth]
  have := depth_each h2 l
  omega
theorem shaped_tup {α : Type} {g : α → PyData} (h1 : ∀ a, (g a).canLay0 = true) (h2 : ∀ a, (g a).depth ≤ 1) (l : List α) : SeqAt.shaped (.tuple (l.map g)) = true := by
  unfold SeqAt.shaped
  rw [show (PyData.tuple (l.map g)).canLay0 = true from by simp only [PyData.canLay0]; exact lay_each h1 l, Bool.true_and]
  refine decide_eq_true ?_
  simp only [PyData.depth]
  have := depth_each h2 l
  omega
theorem lay_P (r : Nat × Nat) : (dP r).canLay0 = true := lay_T [r.1, r.2]
theorem depth_P (r : Nat × Nat) : (dP r).depth ≤ 1 := depth_T [r.1, r.2]
theorem shaped_P (r : Nat × Nat) : SeqAt.shaped (dP r) = true := shaped_T [r.1, r.2]
section
variable {K : PySem.W.Frag} {H : Hp}
theorem dpAll_ns : ∀ l : List Nat, DpAll K H (vNs l) (dNs l)
  | [] => .nil
  | x :: l => .cons (.int (x : Int)) (dpAll_ns l)
theorem dp_T {t : Addr} {l : List Nat} (h : H t = some (.tup (vNs l))) : Dp K H (.ref t) (dT l) := .tup (SqT.of h) (dpAll_ns l)
theorem dp_P {t : Addr} {r : Nat × Nat} (h : H t = some (.tup [vN r.1, vN r.2])) : Dp K H (.ref t) (dP r) := dp_T (l := [r.1, r.2]) h
theorem dpAll_refs {α : Type} {g : α → PyData} : ∀ (ts : List Addr) (l : List α), ts.length = l.length → (∀ (i : Nat) (t : Addr) (a : α), ts[i]? = some t → l[i]? = some a → Dp K H (.ref t) (g a)) → DpAll K H (ts.map V.ref) (l.map g)
  | [], [], _, _ => .nil
  | [], _ :: _, h, _ => by simp at h
  | _ :: _, [], h, _ => by simp at h
  | t :: ts, a :: l, h, k => .cons (k 0 t a rfl rfl) (dpAll_refs ts l (by simpa using h) fun i t' a' e1 e2 => k (i + 1) t' a' (by simpa using e1) (by simpa using e2))
end
/-! ### x in a tuple of data -/
def rInT (K : PySem.W.Frag) : V → V → Hp → VK → Prop := fun x y H Q => ∃ d ds, Dp K H x d ∧ Dp K H y (.tuple ds) ∧ SeqAt.shaped d = true ∧ SeqAt.shaped (.tuple ds) = true ∧ Q (.bl (ds.any fun z => PyData.eqv z d)) H
theorem op_inT {X : Cx} (hu : X.A.units + 65 < cLine) : OpR X (compareOp .In) (rInT X.K) := by
  intro pins s σ H x y v u Q I rx ry h
  obtain ⟨d, ds, hd, he, sd, se, q⟩ := h
  obtain ⟨as, r1⟩ := Dp.reads I d x v hd rx
  obtain ⟨bs, r2⟩ := Dp.reads I (.tuple ds) y u he ry
  refine SeqAt.in_tuple_reads r2 r1 (SeqAt.canLay_of_shaped se) (SeqAt.canLay_of_shaped sd) ?_ ⟨.bl _, H, I, rfl, q⟩
  have := SeqAt.depth_of_shaped sd
  omega
theorem any_P (l : List (Nat × Nat)) (r : Nat × Nat) : ((l.map dP).any fun z => PyData.eqv z (dP r)) = decide (r ∈ l) := by
  rw [List.any_map, Bool.eq_iff_iff, List.any_eq_true, decide_eq_true_eq]
  constructor
  · rintro ⟨x, hx, h⟩
    have h : PyData.eqv (dP x) (dP r) = true := h
    rw [eqv_P, decide_eq_true_eq] at h
    exact h ▸ hx
  · intro h
    refine ⟨r, h, ?_⟩
    show PyData.eqv (dP r) (dP r) = true
    rw [eqv_P, decide_eq_true rfl]
/-! ### an int in a row of ints -/
theorem flat_ns : ∀ l : List Nat, (vNs l).all flatV = true
  | [] => rfl
  | x :: l => by
    show (flatV (vN x) && (vNs l).all flatV) = true
    rw [flat_ns l]
    rfl
theorem in_ns (x : Nat) (l : List Nat) : inV (vN x) (vNs l) = decide (x ∈ l) := by
  unfold inV
  rw [List.any_map, Bool.eq_iff_iff, List.any_eq_true, decide_eq_true_eq]
  have e : ∀ y : Nat, eqV (vN y) (vN x) = decide (y = x) := fun y => by
    show ((y : Int) == (x : Int)) = _
    by_cases h : y = x
    · subst h; simp
    · have : ¬ (y : Int) = (x : Int) := by omega
      simp [h, this]
  constructor
  · rintro ⟨y, hy, h⟩
    have h : eqV (vN y) (vN x) = true := h
    rw [e, decide_eq_true_eq] at h
    exact h ▸ hy
  · intro h
    refine ⟨x, h, ?_⟩
    show eqV (vN x) (vN x) = true
    rw [e, decide_eq_true rfl]
end BD
set_option maxRecDepth 100000
set_option maxHeartbeats 4000000
namespace BD
open PySem PySem.Spec PyProof.Rows L2 GxR BM
theorem hu65 {A : Around} {k : Nat} (hr : Room k A) : A.units + 65 < cLine := by have := hr.un; omega
theorem hu64 {A : Around} {k : Nat} (hr : Room k A) : A.units + 64 < cLine := by have := hr.un; omega
theorem cut_to (xs : List V) (i : Nat) (h : i ≤ xs.length) : cutV xs none (some (i : Int)) = xs.take i := by
  unfold cutV
  rw [HT.sIx_none, HT.sIx_nat, Nat.min_eq_left h, Nat.sub_zero, List.drop_zero]
theorem not_whole (xs : List V) (i : Nat) (h : i < xs.length) : ¬ (HT.sIx xs.length 0 none = 0 ∧ HT.sIx xs.length xs.length (some (i : Int)) = xs.length) := by
  rw [HT.sIx_nat]
  omega
theorem nodup_take {α : Type} [DecidableEq α] {l : List α} (hd : l.Nodup) {i : Nat} {r : α} (h : l[i]? = some r) : r ∉ l.take i := by
  intro hm
  obtain ⟨j, hj, e⟩ := List.getElem_of_mem hm
  rw [List.length_take] at hj
  rw [List.getElem_take] at e
  obtain ⟨hi, e2⟩ := List.getElem?_eq_some_iff.mp h
  have := (List.nodup_iff_pairwise_ne.mp hd)
  rw [List.pairwise_iff_getElem] at this
  exact this j i (by omega) hi (by omega) (e.trans e2.symm)
section
variable {P : Program} {w : World} {K : PySem.W.Frag} {mg : Str → Option Value} {base : Heap}
/-! ### need_person, people -/
abbrev sNeedPerson : Stmt := topS 11
theorem scNeedPerson : FnScope ["web", "person"] ["web", "person"] (defScope sNeedPerson) := ⟨rfl, rfl, rfl, by decide +kernel, rfl, by decide +kernel, by decide +kernel⟩
def spNeedPerson : Sp := fun vs H Q _ => ∃ (n p : Nat) (arcs : Arcs) (a b : Addr) (ts : List Addr), vs = [.ref a, vN p] ∧ WebAt H a b ts n arcs ∧ 1 ≤ p ∧ p ≤ n ∧ Q .non H
theorem ok_needPerson {f fI : Addr} {fd fdI : FuncData} (N : Names mg) (F : Fun K "need_person" "need_person" sNeedPerson f fd)
    (FI : Fun K "is_in" "is_in" sIsIn fI fdI) (bI : Binds K fdI ["value", "least", "most"] []) (gI : mg "is_in" = some (.ref fI)) : FnOk P w K mg base CX0 2 f fd ["web", "person"] spNeedPerson := by
  have GI : FnOk P w K mg base CX0 1 fI fdI ["value", "least", "most"] spIsIn := ok_isIn N FI
  refine F.ok scNeedPerson (fun vs H Q E h => ?_) (fun cdv A outer s H vs Q E hr h => ?_)
  · obtain ⟨n, p, arcs, a, b, ts, rfl, _⟩ := h
    rfl
  · obtain ⟨n, p, arcs, a, b, ts, rfl, W, h1, h2, q⟩ := h
    refine ⟨_, pss_one (ps_if (pt_not (pt_val (pe_call GI hr (by rfl) gI FI.kp bI .nil pass0 (pa_cons (pv 1) (pa_cons pe_int (pa_cons (pe_ix ix_tup (pv 0) pe_int (fun _ _ => rfl)) pa_nil)))))) pss_never pss_nil), ?_⟩
    refine ⟨vN p, rfl, .ref a, rfl, a, _, 0, _, rfl, rfl, SqT.of W.top, atI_nat (j := 0) rfl, p, 1, n, rfl, true, ?_, iteF q⟩
    have e1 : decide ((1 : Int) ≤ (p : Int)) = true := decide_eq_true (by omega)
    have e2 : decide ((p : Int) ≤ (n : Int)) = true := decide_eq_true (by omega)
    rw [e1, e2]
    rfl
abbrev sPeople : Stmt := topS 12
theorem scPeople : FnScope ["web"] ["web"] (defScope sPeople) := ⟨rfl, rfl, rfl, by decide +kernel, rfl, by decide +kernel, by decide +kernel⟩
def spPeople : Sp := fun vs H Q _ => ∃ (n : Nat) (arcs : Arcs) (a b : Addr) (ts : List Addr), vs = [.ref a] ∧ WebAt H a b ts n arcs ∧ n ≤ 1000 ∧ ∀ p, H p = none → Q (.ref p) (upd H p (.tup (vNs (people n))))
theorem rg_people (n : Nat) : rgV 1 ((n : Int) + 1) = vNs (people n) := by
  unfold rgV vNs people
  rw [show ((n : Int) + 1 - 1).toNat = n by omega, List.map_map]
  refine List.map_congr_left fun i _ => ?_
  show V.int (1 + (i : Int)) = V.int ((i + 1 : Nat) : Int)
  congr 1
  omega
theorem ok_people {f : Addr} {fd : FuncData} (N : Names mg) (F : Fun K "people" "people" sPeople f fd) : FnOk P w K mg base CX0 1 f fd ["web"] spPeople := by
  refine F.ok scPeople (fun vs H Q E h => ?_) (fun cdv A outer s H vs Q E hr h => ?_)
  · obtain ⟨n, arcs, a, b, ts, rfl, _⟩ := h
    rfl
  · obtain ⟨n, arcs, a, b, ts, rfl, W, hn, q⟩ := h
    refine ⟨_, pss_one (ps_ret (pe_tupRg rfl (by rfl) N.tuple (prg_2 (by rfl) N.range pe_int (pe_op op_add (pe_ix ix_tup (pv 0) pe_int (fun _ _ => rfl)) pe_int)))), ?_⟩
    refine ⟨.ref a, rfl, a, _, 0, _, rfl, rfl, SqT.of W.top, atI_nat (j := 0) rfl, n, 1, rfl, rfl, 1, n + 1, rfl, rfl, RgOk.of_le (by omega) (by omega) (by omega) (by omega), fun p hp => ?_⟩
    rw [rg_people]
    exact q p hp
/-! ### need_web -/
abbrev sNeedWeb : Stmt := topS 10
theorem scNeedWeb : FnScope ["web", "index", "arc"] ["web"] (defScope sNeedWeb) := ⟨rfl, rfl, rfl, by decide +kernel, rfl, by decide +kernel, by decide +kernel⟩
def spNeedWeb (T : Addr) : Sp := fun vs H Q _ => ∃ (n : Nat) (arcs : Arcs) (a b : Addr) (ts : List Addr), vs = [.ref a] ∧ WebAt H a b ts n arcs ∧ Web n arcs ∧ TabG H T ∧ ∀ H', Kp H H' → Q .non H'
theorem ok_needWeb {f fI fA c T : Addr} {fd fdI fdA : FuncData} (N : Names mg) (F : Fun K "need_web" "need_web" sNeedWeb f fd) (FA : FunC K "is_arc" "is_arc" sIsArc fA fdA c) (TB : TabB base mg c T) (bA : Binds K fdA ["size", "value"] []) (gA : mg "is_arc" = some (.ref fA))
    (FI : Fun K "is_in" "is_in" sIsIn fI fdI) (bI : Binds K fdI ["value", "least", "most"] []) (gI : mg "is_in" = some (.ref fI)) : FnOk P w K mg base CX0 6 f fd ["web"] (spNeedWeb T) := by
  have GI : FnOk P w K mg base CX0 1 fI fdI ["value", "least", "most"] spIsIn := ok_isIn N FI
  have GAr : FnOk P w K mg base CX0 5 fA fdA ["size", "value"] (spIsArc T) := ok_isArc N FA TB FI bI gI
  obtain ⟨tP, hP⟩ := N.people
  obtain ⟨tA, hA⟩ := N.arcs
  refine F.ok scNeedWeb (fun vs H Q E h => ?_) (fun cdv A outer s H vs Q E hr h => ?_)
  · obtain ⟨n, arcs, a, b, ts, rfl, _⟩ := h
    rfl
  · obtain ⟨n, arcs, a, b, ts, rfl, W, hw, hT, q⟩ := h
    refine ⟨_, pss_cons (ps_if (PW.pt (pw_or (pt_not (pt_val (pe_callB call_isi (by rfl) N.isi boot_isinstance (pa_cons (pv 0) (pa_cons (pe_bltn (v := .ty "tuple") (by rfl) N.tuple boot_tuple rfl) pa_nil)))))
        (pw_or (pt_cmpR op_ne (pe_callB call_len_seq (by rfl) N.len PySem.boot_len (pa_cons (pv 0) pa_nil)) pe_int (nomark _))
        (pw_or1 (pt_not (pt_val (pe_call GI (hr.mono (by decide)) (by rfl) gI FI.kp bI .nil pass0 (pa_cons (pe_ix ix_tup (pv 0) pe_int (fun _ _ => rfl)) (pa_cons pe_int (pa_cons (pe_glob (v := .int 6) (by rfl) hP ⟨_, rfl⟩) pa_nil)))))))))) pss_never pss_nil)
      (pss_cons (ps_if (PW.pt (pw_or (pt_not (pt_val (pe_callB call_isi (by rfl) N.isi boot_isinstance (pa_cons (pe_ix ix_tup (pv 0) pe_int (fun _ _ => rfl)) (pa_cons (pe_bltn (v := .ty "tuple") (by rfl) N.tuple boot_tuple rfl) pa_nil)))))
        (pw_or1 (pt_cmpR op_gt (pe_callB call_len_seq (by rfl) N.len PySem.boot_len (pa_cons (pe_ix ix_tup (pv 0) pe_int (fun _ _ => rfl)) pa_nil)) (pe_glob (v := .int 12) (by rfl) hA ⟨_, rfl⟩) (nomark _))))) pss_never pss_nil)
      (pss_one (ps_for PassesOwn.never rfl (SE.pi_enumT (by rfl) N.enumerate (pa_cons (pe_ix ix_tup (pv 0) pe_int (fun _ _ => rfl)) pa_nil))
        (pg_tup rfl (pgs_cons (pg_name (i := 1) scNeedWeb.nd rfl (.inl rfl)) (pgs_cons (pg_name (i := 2) scNeedWeb.nd rfl (.inl rfl)) pgs_nil)))
        (pss_one (ps_if (PW.pt (pw_or (pt_not (pt_val (pe_call GAr hr (by rfl) gA FA.kp bA .nil pass0 (pa_cons (pe_ix ix_tup (pv 0) pe_int (fun _ _ => rfl)) (pa_cons (pv 2) pa_nil)))))
          (pw_or1 (pt_cmpR (op_inT (hu65 hr)) (pv 2) (pe_slice sl_tup (pe_ix ix_tup (pv 0) pe_int (fun _ _ => rfl)) po_none (po_some (pv 1))) (by rfl))))) pss_never pss_nil))))), ?_⟩
    have hl := hw.len
    have hlt : ts.length = arcs.length := W.len
    refine ⟨.ref a, rfl, .ref a, .ty "tuple", .type "tuple", .type "tuple", true, rfl, .ty "tuple", .base (.tup W.top), kit_ty (by decide +kernel), true, rfl, iteF ?_⟩
    refine ⟨.ref a, rfl, a, _, rfl, .inr (SqT.of W.top), rfl, _, rfl, iteF ?_⟩
    refine ⟨.ref a, rfl, a, _, 0, _, rfl, rfl, SqT.of W.top, atI_nat (j := 0) rfl, n, 1, 6, rfl, true, ?_, iteF ?_⟩
    · have e1 : decide ((1 : Int) ≤ (n : Int)) = true := decide_eq_true (by have := hw.n1; omega)
      have e2 : decide ((n : Int) ≤ 6) = true := decide_eq_true (by have := hw.n6; omega)
      rw [e1, e2]
      rfl
    refine ⟨.ref a, rfl, a, _, 1, _, rfl, rfl, SqT.of W.top, atI_nat (j := 1) rfl, .ref b, .ty "tuple", .type "tuple", .type "tuple", true, rfl, .ty "tuple", .base (.tup W.row), kit_ty (by decide +kernel), true, rfl, iteF ?_⟩
    refine ⟨.ref a, rfl, a, _, 1, _, rfl, rfl, SqT.of W.top, atI_nat (j := 1) rfl, b, _, rfl, .inr (SqT.of W.row), _, 12, rfl, rfl, false, ?_, iteF ?_⟩
    · have e1 : decide ((12 : Int) < ((ts.map V.ref).length : Int)) = false := decide_eq_false (by rw [List.length_map]; omega)
      rw [← e1]
    refine ⟨.ref a, rfl, a, _, 1, _, rfl, rfl, SqT.of W.top, atI_nat (j := 1) rfl, b, _, rfl, W.row, ?_⟩
    refine for_it (SE.walk_enumT (a := b) (xs := ts.map V.ref)) (fun i σ H' => ∃ y1 y2, σ = [some (.ref a), y1, y2] ∧ Kp H H') ⟨none, none, rfl, Kp.refl H⟩ (fun i σ H' _ p => ?_) (fun i x σ H1 H2 hi p y => ?_) (fun σ H' p => ?_)
    · obtain ⟨y1, y2, _, k⟩ := p
      exact k.tup W.row
    · obtain ⟨y1, y2, rfl, k⟩ := p
      obtain ⟨Tp, x0, x1, rfl, hTp, rfl, e0, e1⟩ := y
      obtain rfl : V.int (i : Int) = x0 := Option.some.inj e0
      obtain ⟨t, r, rfl, et, er, _⟩ := W.at_ e1
      have k2 : Kp H (upd H1 Tp (.tup [.int (i : Int), .ref t])) := k.add hTp
      have W2 := W.kp k2
      refine ⟨Tp, [.int (i : Int), .ref t], rfl, SqT.of upd_same, rfl, .int (i : Int), [.ref t], rfl, .ref t, [], rfl, rfl, ?_⟩
      have hm : r ∈ arcs := List.mem_of_getElem? er
      refine ⟨.ref a, rfl, a, _, 0, _, rfl, rfl, SqT.of W2.top, atI_nat (j := 0) rfl, .ref t, rfl, n, r.1, r.2, t, rfl, W2.arc i t r et er, hw.src r hm, hw.dst r hm, hw.ne r hm, k2.tab _ hT, fun H3 k3 => ⟨true, rfl, iteF ?_⟩⟩
      have k4 := k2.trans k3
      have W4 := W.kp k4
      refine ⟨.ref t, rfl, .ref a, rfl, a, _, 1, _, rfl, rfl, SqT.of W4.top, atI_nat (j := 1) rfl, .int (i : Int), rfl, i, rfl, b, _, rfl, SqT.of W4.row, not_whole _ _ hi, fun p hp => ?_⟩
      rw [List.length_map] at hi
      rw [cut_to _ _ (by rw [List.length_map]; omega)]
      have k5 : Kp H (upd H3 p (.tup ((ts.map V.ref).take i))) := k4.add hp
      have W5 := W.kp k5
      refine ⟨dP r, (arcs.take i).map dP, dp_P (W5.arc i t r et er), .tup (SqT.of upd_same) ?_, shaped_P r, shaped_tup lay_P depth_P _, false, ?_, iteF ?_⟩
      · rw [← List.map_take] at W5 ⊢
        refine dpAll_refs (ts.take i) (arcs.take i) (by rw [List.length_take, List.length_take, hlt]) fun j t' r' e1 e2 => ?_
        rw [List.getElem?_take] at e1 e2
        split at e1
        · rename_i hj
          rw [if_pos hj] at e2
          exact dp_P (W5.arc j t' r' e1 e2)
        · cases e1
      · rw [any_P, decide_eq_false (nodup_take hw.nd er)]
      · exact ⟨_, _, rfl, k5⟩
    · obtain ⟨y1, y2, rfl, k⟩ := p
      exact q H' k
end
end BD
set_option maxRecDepth 100000
set_option maxHeartbeats 4000000
namespace BD
open PySem PySem.Spec PyProof.Rows L2 GxR BM
theorem take_snoc {α : Type} {l : List α} {i : Nat} {a : α} (h : l[i]? = some a) : l.take (i + 1) = l.take i ++ [a] := by
  rw [List.take_add_one, h]
  rfl
section
variable {P : Program} {w : World} {K : PySem.W.Frag} {mg : Str → Option Value} {base : Heap}
abbrev sHearers : Stmt := topS 14
theorem scHearers : FnScope ["web", "begin", "seen", "rows", "more", "source", "goal", "one"] ["web", "begin"] (defScope sHearers) := ⟨rfl, rfl, rfl, by decide +kernel, rfl, by decide +kernel, by decide +kernel⟩
def spHearers : Sp := fun vs H Q _ => ∃ (n p : Nat) (arcs : Arcs) (a b bg : Addr) (ts : List Addr), vs = [.ref a, .ref bg] ∧ WebAt H a b ts n arcs ∧ Web n arcs ∧ p ∈ people n ∧ H bg = some (.lst [vN p]) ∧
  ∀ H' d seen, Kp H H' → H d = none → H' d = some (.dK (seenD seen)) → seen.Perm (heard n arcs p) → Q (.ref d) H'
theorem ok_hearers {f : Addr} {fd : FuncData} (N : Names mg) (F : Fun K "hearers" "hearers" sHearers f fd) : FnOk P w K mg base CX0 1 f fd ["web", "begin"] spHearers := by
  refine F.ok scHearers (fun vs H Q E h => ?_) (fun cdv A outer s H vs Q E hr h => ?_)
  · obtain ⟨n, p, arcs, a, b, bg, ts, rfl, _⟩ := h
    rfl
  · obtain ⟨n, p, arcs, a, b, bg, ts, rfl, W, hw, hp, hbg, q⟩ := h
    refine ⟨_, pss_cons (ps_par (i := 2) (j := 3) rfl scHearers.nd rfl rfl (by decide) rfl rfl
        (pa_cons (pe_dc (own := [("one", 7)]) rfl scHearers.nd (pi_list (pv 1)) (blkOk_by (own := [("one", 7)]) (N := ["web", "begin", "seen", "rows", "more", "source", "goal", "one"]) (sc := defScope sHearers) (by decide +kernel))
            (fun _ _ _ _ _ => pg_name (i := 7) scHearers.nd rfl (.inl rfl)) (fun _ _ _ _ _ => pts_nil) (fun _ _ _ _ _ => pv 7) (fun _ _ _ _ _ => pe_bl))
          (pa_cons (pe_callTy call_list_of (by rfl) N.list boot_list (pa_cons (pv 1) pa_nil)) pa_nil)) (by rfl))
      (pss_cons (ps_while PassesOwn.never (pt_truth (pv 3) (by intro _; rfl))
        (pss_cons (ps_set (i := 4) scHearers.nd rfl (.inl rfl) (pe_lst pa_nil))
        (pss_cons (ps_for PassesOwn.never rfl (pi_tup (pe_ix ix_tup (pv 0) pe_int (fun _ _ => rfl)))
          (pg_tup rfl (pgs_cons (pg_name (i := 5) scHearers.nd rfl (.inl rfl)) (pgs_cons (pg_name (i := 6) scHearers.nd rfl (.inl rfl)) pgs_nil)))
          (pss_one (ps_if (PW.pt (pw_and (pt_cmpR op_in_seq (pv 5) (pv 3) (by rfl)) (pw_and1 (pt_cmp (pc_dnotin (hu_of hr) (pv 6) (pv 2))))))
            (pss_cons (ps_dput (hu_of hr) (pv 2) (pv 6) pe_bl rfl)
            (pss_one (ps_expr (pe_bm PySem.F.plainAttrs_list PySem.F.slot_list_append PySem.F.type_list_append mt_append (pv 4) (pa_cons (pv 6) pa_nil))))) pss_nil)))
        (pss_one (ps_set (i := 3) scHearers.nd rfl (.inl rfl) (pv 4))))))
      (pss_one (ps_ret (pv 2)))), ?_⟩
    -- the two lists
    refine ⟨.ref bg, rfl, bg, rfl, ⟨_, SqL.of hbg⟩, fun d hd => ?_⟩
    refine dc_it (walk_list (xs := [vN p])) (fun i H1 => (i = 0 ∧ H1 = upd H d (.dK [])) ∨ (i = 1 ∧ H1 = upd H d (.dK (seenD [p])))) (.inl ⟨rfl, rfl⟩) (fun i H1 _ h => ?_) (fun i x H1 H2 hi h y => ?_) (fun H1 h => ?_)
    · rcases h with ⟨_, rfl⟩ | ⟨_, rfl⟩ <;> exact SqL.of ((Kp.new hd).lst hbg)
    · obtain rfl : i = 0 := by simpa using hi
      rcases h with ⟨_, rfl⟩ | ⟨z, _⟩
      · obtain ⟨rfl, hx⟩ := y
        obtain rfl : vN p = x := Option.some.inj hx
        refine ⟨rfl, ?_⟩
        dsimp only [tYes]
        refine iteT ⟨_, rfl, [], Sum.inl (p : Int), rfl, upd_same, by decide, .inr ⟨rfl, ?_⟩⟩
        rw [upd_upd]
        rfl
      · cases z
    rcases h with ⟨z, _⟩ | ⟨_, rfl⟩
    · cases z
    have k1 : Kp H (upd H d (.dK (seenD [p]))) := Kp.new hd
    refine ⟨.ref bg, rfl, bg, _, rfl, .inl (SqL.of (k1.lst hbg)), fun r hr0 => ⟨_, _, rfl, ?_⟩⟩
    -- the while
    have k2 : Kp H (upd (upd H d (.dK (seenD [p]))) r (.lst [vN p])) := k1.add hr0
    refine ⟨fun m σ H' => ∃ (seen rows : List Nat) (r : Addr) (y4 y5 y6 y7 : Option V), m = bmeas n seen rows ∧ σ = [some (.ref a), some (.ref bg), some (.ref d), some (.ref r), y4, y5, y6, y7] ∧ Kp H H' ∧ H' d = some (.dK (seenD seen)) ∧ H' r = some (.lst (vNs rows)) ∧ BInv n arcs p seen rows,
      ⟨_, [p], [p], r, none, none, none, none, rfl, rfl, k2, ?_, upd_same, BInv.start hp⟩, fun m σ H' hW => ?_⟩
    · rw [upd_ne (ne_of_none upd_same hr0)]
      exact upd_same
    obtain ⟨seen, rows, r', y4, y5, y6, y7, rfl, rfl, k, hsd, hrw, B⟩ := hW
    refine ⟨.ref r', rfl, !(vNs rows).isEmpty, .inl ⟨_, SqL.of hrw, rfl⟩, ?_⟩
    by_cases hne : rows = []
    · subst hne
      refine iteF ?_
      exact ⟨.ref d, rfl, q H' d seen k hd hsd B.perm⟩
    · have e1 : (!(vNs rows).isEmpty) = true := by
        cases rows with
        | nil => exact absurd rfl hne
        | cons _ _ => rfl
      rw [e1]
      refine iteT ⟨fun σ2 H2 => ∃ (seen2 rows2 : List Nat) (r2 : Addr) (y4 y5 y6 y7 : Option V), bmeas n seen2 rows2 < bmeas n seen rows ∧ σ2 = [some (.ref a), some (.ref bg), some (.ref d), some (.ref r2), y4, y5, y6, y7] ∧ Kp H H2 ∧ H2 d = some (.dK (seenD seen2)) ∧ H2 r2 = some (.lst (vNs rows2)) ∧ BInv n arcs p seen2 rows2,
        fun σ2 H2 hN => ?_, ?_⟩
      · obtain ⟨seen2, rows2, r2, z4, z5, z6, z7, hlt, e, h1, h2, h3, h4⟩ := hN
        exact ⟨_, hlt, seen2, rows2, r2, z4, z5, z6, z7, rfl, e, h1, h2, h3, h4⟩
      -- more = []
      refine ⟨Nat.zero_le _, fun mo hmo => ?_⟩
      have k3 : Kp H (upd H' mo (.lst [])) := k.add hmo
      have hm0 : H mo = none := k.live mo hmo
      have rmo : r' ≠ mo := ne_of_none hrw hmo
      have W3 := W.kp k3
      refine ⟨.ref a, rfl, a, _, 1, _, rfl, rfl, SqT.of W3.top, atI_nat (j := 1) rfl, b, rfl, ⟨_, SqT.of W3.row⟩, ?_⟩
      refine for_it (walk_tup (xs := ts.map V.ref)) (fun i σ3 H3 => ∃ (y5 y6 : Option V), σ3 = [some (.ref a), some (.ref bg), some (.ref d), some (.ref r'), some (.ref mo), y5, y6, y7] ∧ Kp H H3 ∧ H3 d = some (.dK (seenD (bfold rows seen (arcs.take i)).1)) ∧ H3 r' = some (.lst (vNs rows)) ∧ H3 mo = some (.lst (vNs (bfold rows seen (arcs.take i)).2)))
        ⟨y5, y6, rfl, k3, ?_, ?_, upd_same⟩ (fun i σ3 H3 _ h => ?_) (fun i x σ3 H3 H4 hi h y => ?_) (fun σ3 H3 h => ?_)
      · rw [upd_ne (ne_of_none hsd hmo)]
        exact hsd
      · rw [upd_ne (ne_of_none hrw hmo)]
        exact hrw
      · obtain ⟨_, _, _, k4, _⟩ := h
        exact SqT.of (k4.tup W.row)
      · obtain ⟨z5, z6, rfl, k4, h1, h2, h3⟩ := h
        obtain ⟨rfl, hx⟩ := y
        obtain ⟨t, ar, rfl, et, er, _⟩ := W.at_ hx
        have W4 := W.kp k4
        have ht := W4.arc i t ar et er
        refine ⟨t, _, rfl, SqT.of ht, rfl, vN ar.1, [vN ar.2], rfl, vN ar.2, [], rfl, rfl, ?_⟩
        rw [take_snoc er, bfold_snoc]
        generalize hst : bfold rows seen (arcs.take i) = st at h1 h3
        have step : ∀ {B : Prop}, (ar.1 ∈ rows → ar.2 ∉ st.1 → B) → (¬ (ar.1 ∈ rows ∧ ar.2 ∉ st.1) → B) → B := fun h1 h2 => by
          by_cases c : ar.1 ∈ rows ∧ ar.2 ∉ st.1
          · exact h1 c.1 c.2
          · exact h2 c
        have done : ¬ (ar.1 ∈ rows ∧ ar.2 ∉ st.1) → ∃ (y5 y6 : Option V), ([some (.ref a), some (.ref bg), some (.ref d), some (.ref r'), some (.ref mo), some (vN ar.1), some (vN ar.2), y7] : L2.St) = [some (.ref a), some (.ref bg), some (.ref d), some (.ref r'), some (.ref mo), y5, y6, y7] ∧ Kp H H4 ∧ H4 d = some (.dK (seenD (bstep rows st ar).1)) ∧ H4 r' = some (.lst (vNs rows)) ∧ H4 mo = some (.lst (vNs (bstep rows st ar).2)) := fun c => by
          rw [bstep_no c]
          exact ⟨_, _, rfl, k4, h1, h2, h3⟩
        refine ⟨vN ar.1, rfl, .ref r', rfl, r', _, rfl, .inl (SqL.of h2), rfl, flat_ns _, _, rfl, ?_⟩
        show if (if false = true then !inV (vN ar.1) (vNs rows) else inV (vN ar.1) (vNs rows)) = true then _ else _
        rw [if_neg Bool.false_ne_true, in_ns]
        by_cases c1 : ar.1 ∈ rows
        · rw [decide_eq_true c1]
          refine iteT ⟨vN ar.2, rfl, .ref d, rfl, d, _, rfl, DGet.k (k := Sum.inl (ar.2 : Int)) h1, _, rfl, ?_⟩
          rw [seenD_has]
          by_cases c2 : ar.2 ∈ st.1
          · rw [decide_eq_true c2]
            exact iteF (done fun c => c.2 c2)
          · rw [decide_eq_false c2]
            refine iteT ⟨.ref d, rfl, vN ar.2, rfl, d, _, rfl, DPut.k (k := Sum.inl (ar.2 : Int)) h1 ?_, ?_⟩
            · rw [List.length_map]
              have f := finv_fold hw B (arcs.take i) fun _ hm => List.mem_of_mem_take hm
              rw [hst] at f
              have := len_le f.nd f.ppl
              have h6 := hw.n6
              exact small1000 (by omega)
            rw [seenD_put c2]
            have k5 : Kp H (upd H4 d (.dK (seenD (st.1 ++ [ar.2])))) := k4.put hd
            have dmo : mo ≠ d := ne_of h3 h1 (by intro z; cases z)
            have dr : r' ≠ d := ne_of h2 h1 (by intro z; cases z)
            have h3' : (upd H4 d (.dK (seenD (st.1 ++ [ar.2])))) mo = some (.lst (vNs st.2)) := by rw [upd_ne dmo]; exact h3
            have f := finv_fold hw B (arcs.take i) fun _ hm => List.mem_of_mem_take hm
            rw [hst] at f
            refine ⟨.ref mo, rfl, .inl ⟨rfl, _, .inl (.inl h3')⟩, vN ar.2, rfl, mo, _, _, rfl, rfl, h3', ?_, ?_⟩
            · rw [List.length_map]
              have := len_le f.nd f.ppl
              rw [f.eq, List.length_append] at this
              have h6 := hw.n6
              exact small1000 (by omega)
            · rw [bstep_yes c1 c2, vNs_snoc]
              refine ⟨_, _, rfl, k5.put hm0, ?_, ?_, upd_same⟩
              · rw [upd_ne dmo.symm]
                exact upd_same
              · rw [upd_ne rmo, upd_ne dr]
                exact h2
        · rw [decide_eq_false c1]
          exact iteF (done fun c => c1 c.1)
      · obtain ⟨z5, z6, rfl, k4, h1, h2, h3⟩ := h
        rw [List.length_map, W.len, List.take_length] at h1 h3
        exact ⟨.ref mo, rfl, _, _, mo, _, z5, z6, y7, bmeas_lt hw B hne, rfl, k4, h1, h3, B.turn hw⟩
end
end BD
set_option maxRecDepth 100000
set_option maxHeartbeats 4000000
namespace BD
open PySem PySem.Spec PyProof.Rows L2 GxR BM
theorem filter_yes {α : Type} {c : α → Bool} {l : List α} {i : Nat} {a : α} (h : l[i]? = some a) (k : c a = true) : (l.take (i + 1)).filter c = (l.take i).filter c ++ [a] := by
  rw [take_snoc h, List.filter_append]
  simp [k]
theorem filter_no {α : Type} {c : α → Bool} {l : List α} {i : Nat} {a : α} (h : l[i]? = some a) (k : c a = false) : (l.take (i + 1)).filter c = (l.take i).filter c := by
  rw [take_snoc h, List.filter_append]
  simp [k]
theorem vNs_at {l : List Nat} {i : Nat} {x : V} (h : (vNs l)[i]? = some x) : ∃ p, l[i]? = some p ∧ x = vN p ∧ p ∈ l := by
  rw [List.getElem?_map] at h
  cases e : l[i]? with
  | none => rw [e] at h; cases h
  | some p =>
    rw [e] at h
    exact ⟨p, rfl, (Option.some.inj h).symm, List.mem_of_getElem? e⟩
theorem filter_len_le {α : Type} (c : α → Bool) (l : List α) (i : Nat) : ((l.take i).filter c).length ≤ l.length :=
  Nat.le_trans (List.length_filter_le ..) (by rw [List.length_take]; exact Nat.min_le_right ..)
section
variable {P : Program} {w : World} {K : PySem.W.Frag} {mg : Str → Option Value} {base : Heap}
/-! ### winners_of, winners -/
abbrev sWinnersOf : Stmt := topS 15
theorem scWinnersOf : FnScope ["web", "one"] ["web"] (defScope sWinnersOf) := ⟨rfl, rfl, rfl, by decide +kernel, rfl, by decide +kernel, by decide +kernel⟩
def spWinnersOf : Sp := fun vs H Q _ => ∃ (n : Nat) (arcs : Arcs) (a b : Addr) (ts : List Addr), vs = [.ref a] ∧ WebAt H a b ts n arcs ∧ Web n arcs ∧ ∀ H' l, Kp H H' → H l = none → H' l = some (.lst (vNs (winners n arcs))) → Q (.ref l) H'
theorem ok_winnersOf {f fP fH : Addr} {fd fdP fdH : FuncData} (N : Names mg) (F : Fun K "winners_of" "winners_of" sWinnersOf f fd)
    (FP : Fun K "people" "people" sPeople fP fdP) (bP : Binds K fdP ["web"] []) (gP : mg "people" = some (.ref fP)) (FH : Fun K "hearers" "hearers" sHearers fH fdH) (bH : Binds K fdH ["web", "begin"] []) (gH : mg "hearers" = some (.ref fH)) :
    FnOk P w K mg base CX0 2 f fd ["web"] spWinnersOf := by
  have GP : FnOk P w K mg base CX0 1 fP fdP ["web"] spPeople := ok_people N FP
  have GH : FnOk P w K mg base CX0 1 fH fdH ["web", "begin"] spHearers := ok_hearers N FH
  refine F.ok scWinnersOf (fun vs H Q E h => ?_) (fun cdv A outer s H vs Q E hr h => ?_)
  · obtain ⟨n, arcs, a, b, ts, rfl, _⟩ := h
    rfl
  · obtain ⟨n, arcs, a, b, ts, rfl, W, hw, q⟩ := h
    refine ⟨_, pss_one (ps_ret (pe_lc (own := [("one", 1)]) rfl scWinnersOf.nd (pi_tup (pe_call GP hr (by rfl) gP FP.kp bP .nil pass0 (pa_cons (pv 0) pa_nil))) (blkOk_by (own := [("one", 1)]) (N := ["web", "one"]) (sc := defScope sWinnersOf) (by decide +kernel))
      (fun _ _ _ _ _ => pg_name (i := 1) scWinnersOf.nd rfl (.inl rfl))
      (fun _ _ _ _ _ => pts_one (pt_cmpR op_eq (pe_callB call_lenD (by rfl) N.len PySem.boot_len (pa_cons (pe_call GH hr (by rfl) gH FH.kp bH .nil pass0 (pa_cons (pv 0) (pa_cons (pe_lst (pa_cons (pv 1) pa_nil)) pa_nil))) pa_nil)) (pe_ix (ixT K) (pv 0) pe_int (fun _ _ => rfl)) (nomark _)))
      (fun _ _ _ _ _ => pv 1))), ?_⟩
    have h6 := hw.n6
    refine ⟨.ref a, rfl, n, arcs, a, b, ts, rfl, W, by omega, fun pp hpp => ⟨pp, rfl, ⟨_, SqT.of upd_same⟩, fun D hD => ?_⟩⟩
    have k1 : Kp H (upd H pp (.tup (vNs (people n)))) := Kp.new hpp
    have hD0 : H D = none := k1.live D hD
    refine lc_it (walk_tup (xs := vNs (people n))) (fun i H' => Kp H H' ∧ H' pp = some (.tup (vNs (people n))) ∧ H' D = some (.lst (vNs (((people n).take i).filter fun p => (heard n arcs p).length == n))))
      ⟨k1.add hD, ?_, upd_same⟩ (fun i H' _ h => SqT.of h.2.1) (fun i x H1 H2 hi h y => ?_) (fun H' h => ?_)
    · rw [upd_ne (ne_of_none upd_same hD)]
      exact upd_same
    · obtain ⟨k, hpp1, hD1⟩ := h
      obtain ⟨rfl, hx⟩ := y
      obtain ⟨p, ep, rfl, hm⟩ := vNs_at hx
      refine ⟨rfl, .ref a, rfl, vN p, rfl, by show 1 ≤ sizeLine; decide, fun bg hbg => ?_⟩
      have k2 : Kp H (upd H2 bg (.lst [vN p])) := k.add hbg
      refine ⟨n, p, arcs, a, b, bg, ts, rfl, W.kp k2, hw, hm, upd_same, fun H3 d seen k3 hd hs perm => ⟨d, _, rfl, hs, ?_⟩⟩
      have k4 := k2.trans k3
      refine ⟨.ref a, rfl, a, _, 0, _, rfl, rfl, SqT.of (W.kp k4).top, atI_nat (j := 0) rfl, rfl, _, rfl, ?_⟩
      have k12 : Kp H2 (upd H2 bg (.lst [vN p])) := Kp.new hbg
      have hpp3 : H3 pp = some (.tup (vNs (people n))) := (k12.trans k3).tup hpp1
      have hD3 := (k12.trans k3).lst hD1
      have el : (seenD seen).length = (heard n arcs p).length := by rw [List.length_map]; exact perm.length_eq
      rw [el]
      by_cases c : (heard n arcs p).length = n
      · rw [decide_eq_true (show V.int ((heard n arcs p).length : Int) = V.int (n : Int) by rw [c])]
        refine iteT ⟨vN p, rfl, _, hD3, ?_, k4.put hD0, ?_, ?_⟩
        · rw [List.length_map]
          have := filter_len_le (fun p => (heard n arcs p).length == n) (people n) i
          rw [people_len] at this
          exact small1000 (by omega)
        · rw [upd_ne (ne_of hpp3 hD3 (by intro z; cases z))]
          exact hpp3
        · rw [upd_same, vNs_snoc, filter_yes ep (by simpa using c)]
      · rw [decide_eq_false (fun z => c (by have := V.int.inj z; omega))]
        refine iteF ⟨k4, hpp3, ?_⟩
        rw [filter_no ep (by simpa using c)]
        exact hD3
    · obtain ⟨k, _, hD1⟩ := h
      rw [List.length_map, List.take_length] at hD1
      exact q H' D k hD0 hD1
abbrev sWinners : Stmt := topS 16
theorem scWinners : FnScope ["web"] ["web"] (defScope sWinners) := ⟨rfl, rfl, rfl, by decide +kernel, rfl, by decide +kernel, by decide +kernel⟩
def spWinners (T : Addr) : Sp := fun vs H Q _ => ∃ (n : Nat) (arcs : Arcs) (a b : Addr) (ts : List Addr), vs = [.ref a] ∧ WebAt H a b ts n arcs ∧ Web n arcs ∧ TabG H T ∧ ∀ H' l, Kp H H' → H l = none → H' l = some (.tup (vNs (winners n arcs))) → Q (.ref l) H'
theorem ok_winners {f fN fO T : Addr} {fd fdN fdO : FuncData} (N : Names mg) (F : Fun K "winners" "winners" sWinners f fd)
    (GN : FnOk P w K mg base CX0 6 fN fdN ["web"] (spNeedWeb T)) (kN : PySem.W.keepIn K (.ref fN) = true) (bN : Binds K fdN ["web"] []) (gN : mg "need_web" = some (.ref fN))
    (GO : FnOk P w K mg base CX0 2 fO fdO ["web"] spWinnersOf) (kO : PySem.W.keepIn K (.ref fO) = true) (bO : Binds K fdO ["web"] []) (gO : mg "winners_of" = some (.ref fO)) : FnOk P w K mg base CX0 7 f fd ["web"] (spWinners T) := by
  refine F.ok scWinners (fun vs H Q E h => ?_) (fun cdv A outer s H vs Q E hr h => ?_)
  · obtain ⟨n, arcs, a, b, ts, rfl, _⟩ := h
    rfl
  · obtain ⟨n, arcs, a, b, ts, rfl, W, hw, hT, q⟩ := h
    refine ⟨_, pss_cons (ps_expr (pe_call GN hr (by rfl) gN kN bN .nil pass0 (pa_cons (pv 0) pa_nil)))
      (pss_one (ps_ret (pe_callTy call_tuple_of (by rfl) N.tuple boot_tuple (pa_cons (pe_call GO (hr.mono (by decide)) (by rfl) gO kO bO .nil pass0 (pa_cons (pv 0) pa_nil)) pa_nil)))), ?_⟩
    refine ⟨.ref a, rfl, n, arcs, a, b, ts, rfl, W, hw, hT, fun H1 k1 => ?_⟩
    refine ⟨.ref a, rfl, n, arcs, a, b, ts, rfl, W.kp k1, hw, fun H2 l k2 hl hH2 => ⟨l, _, rfl, .inl ⟨SqL.of hH2, fun t ht => ?_⟩⟩⟩
    have k3 := k1.trans k2
    exact q _ t (k3.add ht) (k3.live t ht) upd_same
/-! ### sources -/
abbrev sSources : Stmt := topS 18
theorem scSources : FnScope ["web", "person", "one"] ["web", "person"] (defScope sSources) := ⟨rfl, rfl, rfl, by decide +kernel, rfl, by decide +kernel, by decide +kernel⟩
def spSources : Sp := fun vs H Q _ => ∃ (n p : Nat) (arcs : Arcs) (a b : Addr) (ts : List Addr), vs = [.ref a, vN p] ∧ WebAt H a b ts n arcs ∧ Web n arcs ∧ ∀ H' l, Kp H H' → H l = none → H' l = some (.lst (vNs (sources n arcs p))) → Q (.ref l) H'
theorem ok_sources {f fP fH : Addr} {fd fdP fdH : FuncData} (N : Names mg) (F : Fun K "sources" "sources" sSources f fd)
    (FP : Fun K "people" "people" sPeople fP fdP) (bP : Binds K fdP ["web"] []) (gP : mg "people" = some (.ref fP)) (FH : Fun K "hearers" "hearers" sHearers fH fdH) (bH : Binds K fdH ["web", "begin"] []) (gH : mg "hearers" = some (.ref fH)) :
    FnOk P w K mg base CX0 2 f fd ["web", "person"] spSources := by
  have GP : FnOk P w K mg base CX0 1 fP fdP ["web"] spPeople := ok_people N FP
  have GH : FnOk P w K mg base CX0 1 fH fdH ["web", "begin"] spHearers := ok_hearers N FH
  refine F.ok scSources (fun vs H Q E h => ?_) (fun cdv A outer s H vs Q E hr h => ?_)
  · obtain ⟨n, p, arcs, a, b, ts, rfl, _⟩ := h
    rfl
  · obtain ⟨n, p, arcs, a, b, ts, rfl, W, hw, q⟩ := h
    refine ⟨_, pss_one (ps_ret (pe_lc (own := [("one", 2)]) rfl scSources.nd (pi_tup (pe_call GP hr (by rfl) gP FP.kp bP .nil pass0 (pa_cons (pv 0) pa_nil))) (blkOk_by (own := [("one", 2)]) (N := ["web", "person", "one"]) (sc := defScope sSources) (by decide +kernel))
      (fun _ _ _ _ _ => pg_name (i := 2) scSources.nd rfl (.inl rfl))
      (fun _ _ _ _ _ => pts_one (pt_cmp (pc_din (hu_of hr) (pv 1) (pe_call GH hr (by rfl) gH FH.kp bH .nil pass0 (pa_cons (pv 0) (pa_cons (pe_lst (pa_cons (pv 2) pa_nil)) pa_nil))))))
      (fun _ _ _ _ _ => pv 2))), ?_⟩
    have h6 := hw.n6
    refine ⟨.ref a, rfl, n, arcs, a, b, ts, rfl, W, by omega, fun pp hpp => ⟨pp, rfl, ⟨_, SqT.of upd_same⟩, fun D hD => ?_⟩⟩
    have k1 : Kp H (upd H pp (.tup (vNs (people n)))) := Kp.new hpp
    have hD0 : H D = none := k1.live D hD
    refine lc_it (walk_tup (xs := vNs (people n))) (fun i H' => Kp H H' ∧ H' pp = some (.tup (vNs (people n))) ∧ ∃ acc, H' D = some (.lst (vNs acc)) ∧ acc = ((people n).take i).filter fun z => decide (p ∈ heard n arcs z))
      ⟨k1.add hD, ?_, [], upd_same, rfl⟩ (fun i H' _ h => SqT.of h.2.1) (fun i x H1 H2 hi h y => ?_) (fun H' h => ?_)
    · rw [upd_ne (ne_of_none upd_same hD)]
      exact upd_same
    · obtain ⟨k, hpp1, acc, hD1, eacc⟩ := h
      obtain ⟨rfl, hx⟩ := y
      obtain ⟨z, ez, rfl, hm⟩ := vNs_at hx
      refine ⟨rfl, vN p, rfl, .ref a, rfl, vN z, rfl, by show 1 ≤ sizeLine; decide, fun bg hbg => ?_⟩
      have k2 : Kp H (upd H2 bg (.lst [vN z])) := k.add hbg
      refine ⟨n, z, arcs, a, b, bg, ts, rfl, W.kp k2, hw, hm, upd_same, fun H3 d seen k3 hd hs perm => ⟨d, _, rfl, DGet.k (k := Sum.inl (p : Int)) hs, _, rfl, ?_⟩⟩
      have k4 := k2.trans k3
      have k12 : Kp H2 (upd H2 bg (.lst [vN z])) := Kp.new hbg
      have hpp3 : H3 pp = some (.tup (vNs (people n))) := (k12.trans k3).tup hpp1
      have hD3 := (k12.trans k3).lst hD1
      rw [seenD_has]
      by_cases c : p ∈ seen
      · rw [decide_eq_true c]
        refine iteT ⟨vN z, rfl, _, hD3, ?_, k4.put hD0, ?_, acc ++ [z], ?_, ?_⟩
        · rw [List.length_map, eacc]
          have := filter_len_le (fun z => decide (p ∈ heard n arcs z)) (people n) i
          rw [people_len] at this
          exact small1000 (by omega)
        · rw [upd_ne (ne_of hpp3 hD3 (by intro z; cases z))]
          exact hpp3
        · rw [upd_same, vNs_snoc]
        · rw [eacc, filter_yes ez (by simpa using perm.mem_iff.mp c)]
      · rw [decide_eq_false c]
        refine iteF ⟨k4, hpp3, acc, hD3, ?_⟩
        rw [eacc, filter_no ez (by simpa using fun m => c (perm.mem_iff.mpr m))]
    · obtain ⟨k, _, acc, hD1, eacc⟩ := h
      rw [List.length_map, List.take_length] at eacc
      refine q H' D k hD0 ?_
      rw [hD1, eacc]
      congr 2
end
end BD
set_option maxRecDepth 100000
set_option maxHeartbeats 4000000
namespace BD
open PySem PySem.Spec PyProof.Rows L2 GxR BM
/-! ### rows of ints as keys -/
abbrev iN (l : List Nat) : List Int := l.map fun (x : Nat) => (x : Int)
theorem iN_V (l : List Nat) : (iN l).map V.int = vNs l := by
  show (l.map _).map _ = _
  rw [List.map_map]
  rfl
theorem iN_inj : ∀ {l m : List Nat}, iN l = iN m → l = m
  | [], [], _ => rfl
  | [], _ :: _, h => by cases h
  | _ :: _, [], h => by cases h
  | x :: l, y :: m, h => by
    have h1 : (x : Int) = y := (List.cons.inj h).1
    have h2 : iN l = iN m := (List.cons.inj h).2
    rw [iN_inj h2, show x = y by omega]
abbrev keyN (S : List Nat) : List Key := SE.kI (iN S)
theorem keyN_inj {S U : List Nat} (h : keyN S = keyN U) : S = U := by
  have : ∀ {l m : List Int}, SE.kI l = SE.kI m → l = m := by
    intro l
    induction l with
    | nil => intro m h; cases m with
      | nil => rfl
      | cons _ _ => cases h
    | cons x l ih => intro m h; cases m with
      | nil => cases h
      | cons y m =>
        have h1 : (Sum.inl x : Key) = Sum.inl y := (List.cons.inj h).1
        have h2 : SE.kI l = SE.kI m := (List.cons.inj h).2
        rw [ih h2, Sum.inl.inj h1]
  exact iN_inj (this h)
abbrev dtK (l : List (List Nat)) : List (List Key × V) := (l.map iN).map fun k => (SE.kI k, V.bl true)
theorem dtK_any (l : List (List Nat)) (S : List Nat) : ((dtK l).any fun kv => decide (kv.1 = keyN S)) = decide (S ∈ l) := by
  show (((l.map iN).map _).any _) = _
  rw [List.any_map, List.any_map, Bool.eq_iff_iff, List.any_eq_true, decide_eq_true_eq]
  constructor
  · rintro ⟨x, hx, h⟩
    have h : keyN x = keyN S := by simpa using h
    exact keyN_inj h ▸ hx
  · intro h
    exact ⟨S, h, by simp⟩
theorem dtK_put (l : List (List Nat)) (S : List Nat) : putK (dtK l) (keyN S) (.bl true) = dtK (if S ∈ l then l else l ++ [S]) := by
  unfold putK
  rw [dtK_any]
  by_cases h : S ∈ l
  · rw [if_pos (decide_eq_true h), if_pos h]
    show ((l.map iN).map _).map _ = _
    rw [List.map_map]
    refine List.map_congr_left fun k _ => ?_
    show (if SE.kI k = keyN S then (SE.kI k, V.bl true) else (SE.kI k, V.bl true)) = _
    split <;> rfl
  · rw [if_neg (by simpa using h), if_neg h]
    show _ = ((l ++ [S]).map iN).map _
    rw [List.map_append, List.map_append]
    rfl
section
variable {P : Program} {w : World} {K : PySem.W.Frag} {mg : Str → Option Value} {base : Heap}
/-! ### springs_of -/
abbrev sSpringsOf : Stmt := topS 19
theorem scSpringsOf : FnScope ["web", "found", "some", "person", "one"] ["web"] (defScope sSpringsOf) := ⟨rfl, rfl, rfl, by decide +kernel, rfl, by decide +kernel, by decide +kernel⟩
/-- a list of the springs' tuples, in order -/
def SpringsAt (H : Hp) (n : Nat) (arcs : Arcs) (L : List (Addr × List Int)) : Prop := L.map (·.2) = (keys n arcs).map iN ∧ ∀ q ∈ L, H q.1 = some (.tup (q.2.map V.int))
def spSpringsOf (T : Addr) : Sp := fun vs H Q _ => ∃ (n : Nat) (arcs : Arcs) (a b : Addr) (ts : List Addr), vs = [.ref a] ∧ WebAt H a b ts n arcs ∧ Web n arcs ∧ TabG H T ∧
  ∀ H' l L, Kp H H' → H l = none → SpringsAt H' n arcs L → H' l = some (.lst ((SE.srt L).map fun q => V.ref q.1)) → Q (.ref l) H'
theorem ok_springsOf {f fP fS c T : Addr} {fd fdP fdS : FuncData} (N : Names mg) (F : FunC K "springs_of" "springs_of" sSpringsOf f fd c) (TB : TabB base mg c T)
    (GP : FnOk P w K mg base CX0 1 fP fdP ["web"] spPeople) (kP : PySem.W.keepIn K (.ref fP) = true) (bP : Binds K fdP ["web"] []) (gP : mg "people" = some (.ref fP))
    (GS : FnOk P w K mg base CX0 2 fS fdS ["web", "person"] spSources) (kS : PySem.W.keepIn K (.ref fS) = true) (bS : Binds K fdS ["web", "person"] []) (gS : mg "sources" = some (.ref fS)) :
    FnOk P w K mg base CX0 6 f fd ["web"] (spSpringsOf T) := by
  refine F.ok scSpringsOf (fun vs H Q E h => ?_) (fun A outer s H vs Q E hr h => ?_)
  · obtain ⟨n, arcs, a, b, ts, rfl, _⟩ := h
    rfl
  · obtain ⟨n, arcs, a, b, ts, rfl, W, hw, hT, q⟩ := h
    refine ⟨_, pss_cons (ps_set (i := 1) scSpringsOf.nd rfl (.inl rfl) pe_dnewT)
      (pss_cons (ps_for PassesOwn.never rfl (pi_tup (pe_call GP (hr.mono (by decide)) (by rfl) gP kP bP .nil pass0 (pa_cons (pv 0) pa_nil))) (pg_name (i := 3) scSpringsOf.nd rfl (.inr rfl))
        (pss_cons (ps_set (i := 2) scSpringsOf.nd rfl (.inl rfl) (pe_call GS (hr.mono (by decide)) (by rfl) gS kS bS .nil pass0 (pa_cons (pv 0) (pa_cons (pv 3) pa_nil))))
        (pss_one (ps_if (pt_val (GA.pe_allG (k := 2) (own := [("one", 4)]) hr (by rfl) N.all TB rfl scSpringsOf.nd (gblk_by (own := [("one", 4)]) (N := ["web", "found", "some", "person", "one"]) (sc := defScope sSpringsOf) (by decide +kernel)) (pi_list (pv 2))
            (fun _ _ _ _ _ _ _ _ _ => pg_name (i := 4) scSpringsOf.nd rfl (.inl rfl))
            (fun _ _ _ _ _ _ _ _ hr' => pe_cmpR (inS K) (pv 3) (pe_call GS hr' (by rfl) gS kS bS .nil pass0 (pa_cons (pv 0) (pa_cons (pv 4) pa_nil))) (by rfl))))
          (pss_one (ps_dput (hu_of hr) (pv 1) (pe_callTy call_tuple_of (by rfl) N.tuple boot_tuple (pa_cons (pv 2) pa_nil)) pe_bl rfl)) pss_nil))))
      (pss_one (ps_ret (pe_callB (SE.cr_sortDT rfl (hu64 hr)) (by rfl) N.sorted boot_sorted (pa_cons (pv 1) pa_nil))))), ?_⟩
    have h6 := hw.n6
    intro d hd
    have k1 : Kp H (upd H d (.dT [])) := Kp.new hd
    refine ⟨.ref a, rfl, n, arcs, a, b, ts, rfl, W.kp k1, by omega, fun pp hpp => ⟨pp, rfl, ⟨_, SqT.of upd_same⟩, ?_⟩⟩
    have k2 : Kp H (upd (upd H d (.dT [])) pp (.tup (vNs (people n)))) := k1.add hpp
    refine for_it (walk_tup (xs := vNs (people n))) (fun i σ H' => ∃ (y2 y3 y4 : Option V), σ = [some (.ref a), some (.ref d), y2, y3, y4] ∧ Kp H H' ∧ H' pp = some (.tup (vNs (people n))) ∧ H' d = some (.dT (dtK (keysTo n arcs ((people n).take i)))))
      ⟨none, none, none, rfl, k2, upd_same, ?_⟩ (fun i σ H' _ h => ?_) (fun i x σ H1 H2 hi h y => ?_) (fun σ H' h => ?_)
    · rw [upd_ne (ne_of_none upd_same hpp)]
      exact upd_same
    · obtain ⟨_, _, _, _, _, h1, _⟩ := h
      exact SqT.of h1
    · obtain ⟨y2, y3, y4, rfl, k, hp1, hd1⟩ := h
      obtain ⟨rfl, hx⟩ := y
      obtain ⟨p, ep, rfl, hm⟩ := vNs_at hx
      rw [take_snoc ep, keysTo_snoc]
      -- some = sources(web, person)
      refine ⟨.ref a, rfl, vN p, rfl, n, p, arcs, a, b, ts, rfl, W.kp k, hw, fun H3 l k3 hl hl3 => ?_⟩
      have k4 := k.trans k3
      have hp3 := k3.tup hp1
      have hd3 := k3.dT hd1
      refine ⟨.ref l, rfl, l, rfl, ⟨_, SqL.of hl3⟩, k4.tab T hT, fun H4 ht4 => ?_⟩
      have k5 : Kp H3 H4 := Kp.tabbed (k4.tab T hT) ht4
      refine gen_it (walk_list (xs := vNs (sources n arcs p))) (fun i H5 => Kp H3 H5 ∧ ∀ z ∈ (sources n arcs p).take i, p ∈ sources n arcs z) ⟨k5, by simp⟩ (fun i H5 _ h => SqL.of (h.1.lst hl3)) (fun i x H5 H6 hi h y => ?_) (fun H5 h => ?_)
      · obtain ⟨k6, hall⟩ := h
        obtain ⟨rfl, hx⟩ := y
        obtain ⟨z, ez, rfl, hzm⟩ := vNs_at hx
        refine ⟨rfl, vN p, rfl, .ref a, rfl, vN z, rfl, n, z, arcs, a, b, ts, rfl, W.kp (k4.trans k6), hw, fun H7 l2 k7 hl2 hl7 => ?_⟩
        refine ⟨l2, _, rfl, .inl (SqL.of hl7), rfl, flat_ns _, _, rfl, ?_⟩
        show if (if false = true then !inV (vN p) (vNs (sources n arcs z)) else inV (vN p) (vNs (sources n arcs z))) = false then _ else _
        rw [if_neg Bool.false_ne_true, in_ns]
        by_cases c : p ∈ sources n arcs z
        · rw [decide_eq_true c]
          refine ite_no (by decide) ⟨k6.trans k7, ?_⟩
          rw [take_snoc ez]
          intro u hu
          rcases List.mem_append.mp hu with e | e
          · exact hall u e
          · rw [List.mem_singleton.mp e]; exact c
        · rw [decide_eq_false c]
          refine ite_yes rfl ⟨false, rfl, iteF ⟨_, _, _, rfl, k4.trans (k6.trans k7), (k6.trans k7).tup hp3, ?_⟩⟩
          have hns : ¬ isSpring n arcs p = true := fun e => c (isSpring_iff.mp e z hzm)
          unfold kstep
          rw [if_neg hns]
          exact (k6.trans k7).dT hd3
      · obtain ⟨k6, hall⟩ := h
        rw [List.length_map, List.take_length] at hall
        have hsp : isSpring n arcs p = true := isSpring_iff.mpr hall
        refine ⟨true, rfl, iteT ?_⟩
        refine ⟨.ref d, rfl, .ref l, rfl, l, _, rfl, .inl ⟨SqL.of (k6.lst hl3), fun t ht => ?_⟩⟩
        have k7 : Kp H3 (upd H5 t (.tup (vNs (sources n arcs p)))) := k6.add ht
        have hlen := (keysTo_inv n arcs ((people n).take i)).2.1
        have e8 : (upd H5 t (.tup (vNs (sources n arcs p)))) t = some (.tup ((keyN (sources n arcs p)).map kV)) := by
          rw [SE.kI_kV, iN_V]
          exact upd_same
        refine ⟨d, _, rfl, DPut.t (k := keyN (sources n arcs p)) (k7.dT hd3) e8 ?_, ?_⟩
        · rw [List.length_map, List.length_map]
          rw [List.length_take, people_len] at hlen
          exact small1000 (by omega)
        · rw [dtK_put]
          refine ⟨_, _, _, rfl, (k4.trans k7).put hd, ?_, ?_⟩
          · rw [upd_ne (ne_of (k7.tup hp3) (k7.dT hd3) (by intro z; cases z))]
            exact k7.tup hp3
          · rw [upd_same]
            unfold kstep
            rw [if_pos hsp]
    · obtain ⟨y2, y3, y4, rfl, k, hp1, hd1⟩ := h
      rw [List.length_map, List.take_length] at hd1
      refine ⟨.ref d, rfl, d, (keys n arcs).map iN, .bl true, rfl, hd1, fun S hS => ?_, fun L p hL1 hL2 hp => ?_⟩
      · obtain ⟨U, hU, rfl⟩ := List.mem_map.mp hS
        obtain ⟨z, hz, _, rfl⟩ := ((keysTo_inv n arcs (people n)).2.2 U).mp hU
        intro e
        have := sources_self (arcs := arcs) hz
        rw [List.map_eq_nil_iff.mp e] at this
        cases this
      · refine q _ p L (k.add hp) (k.live p hp) ⟨hL1, fun r hr => ?_⟩ upd_same
        rw [upd_ne (ne_of_none (hL2 r hr) hp)]
        exact hL2 r hr
end
end BD
set_option maxRecDepth 100000
set_option maxHeartbeats 4000000
namespace BD
open PySem PySem.Spec PyProof.Rows L2 GxR BM
section
variable {P : Program} {w : World} {K : PySem.W.Frag} {mg : Str → Option Value} {base : Heap}
/-! ### springs, least_left -/
abbrev sSprings : Stmt := topS 20
theorem scSprings : FnScope ["web"] ["web"] (defScope sSprings) := ⟨rfl, rfl, rfl, by decide +kernel, rfl, by decide +kernel, by decide +kernel⟩
def spSprings (T1 T2 : Addr) : Sp := fun vs H Q _ => ∃ (n : Nat) (arcs : Arcs) (a b : Addr) (ts : List Addr), vs = [.ref a] ∧ WebAt H a b ts n arcs ∧ Web n arcs ∧ TabG H T1 ∧ TabG H T2 ∧
  ∀ H' l L, Kp H H' → H l = none → SpringsAt H' n arcs L → H' l = some (.tup ((SE.srt L).map fun q => V.ref q.1)) → Q (.ref l) H'
theorem ok_springs {f fN fO T1 T2 : Addr} {fd fdN fdO : FuncData} (N : Names mg) (F : Fun K "springs" "springs" sSprings f fd)
    (GN : FnOk P w K mg base CX0 6 fN fdN ["web"] (spNeedWeb T1)) (kN : PySem.W.keepIn K (.ref fN) = true) (bN : Binds K fdN ["web"] []) (gN : mg "need_web" = some (.ref fN))
    (GO : FnOk P w K mg base CX0 6 fO fdO ["web"] (spSpringsOf T2)) (kO : PySem.W.keepIn K (.ref fO) = true) (bO : Binds K fdO ["web"] []) (gO : mg "springs_of" = some (.ref fO)) : FnOk P w K mg base CX0 7 f fd ["web"] (spSprings T1 T2) := by
  refine F.ok scSprings (fun vs H Q E h => ?_) (fun cdv A outer s H vs Q E hr h => ?_)
  · obtain ⟨n, arcs, a, b, ts, rfl, _⟩ := h
    rfl
  · obtain ⟨n, arcs, a, b, ts, rfl, W, hw, hT1, hT2, q⟩ := h
    refine ⟨_, pss_cons (ps_expr (pe_call GN hr (by rfl) gN kN bN .nil pass0 (pa_cons (pv 0) pa_nil)))
      (pss_one (ps_ret (pe_callTy call_tuple_of (by rfl) N.tuple boot_tuple (pa_cons (pe_call GO hr (by rfl) gO kO bO .nil pass0 (pa_cons (pv 0) pa_nil)) pa_nil)))), ?_⟩
    refine ⟨.ref a, rfl, n, arcs, a, b, ts, rfl, W, hw, hT1, fun H1 k1 => ?_⟩
    refine ⟨.ref a, rfl, n, arcs, a, b, ts, rfl, W.kp k1, hw, k1.tab _ hT2, fun H2 l L k2 hl hL hH2 => ⟨l, _, rfl, .inl ⟨SqL.of hH2, fun t ht => ?_⟩⟩⟩
    have k3 := k1.trans k2
    refine q _ t L (k3.add ht) (k3.live t ht) ⟨hL.1, fun r hr => ?_⟩ upd_same
    rw [upd_ne (ne_of_none (hL.2 r hr) ht)]
    exact hL.2 r hr
abbrev sLeastLeft : Stmt := topS 21
theorem scLeastLeft : FnScope ["web"] ["web"] (defScope sLeastLeft) := ⟨rfl, rfl, rfl, by decide +kernel, rfl, by decide +kernel, by decide +kernel⟩
def spLeastLeft (T1 T2 : Addr) : Sp := fun vs H Q _ => ∃ (n : Nat) (arcs : Arcs) (a b : Addr) (ts : List Addr), vs = [.ref a] ∧ WebAt H a b ts n arcs ∧ Web n arcs ∧ TabG H T1 ∧ TabG H T2 ∧
  ∀ H', Kp H H' → Q (vN (keys n arcs).length) H'
theorem ok_leastLeft {f fN fO T1 T2 : Addr} {fd fdN fdO : FuncData} (N : Names mg) (F : Fun K "least_left" "least_left" sLeastLeft f fd)
    (GN : FnOk P w K mg base CX0 6 fN fdN ["web"] (spNeedWeb T1)) (kN : PySem.W.keepIn K (.ref fN) = true) (bN : Binds K fdN ["web"] []) (gN : mg "need_web" = some (.ref fN))
    (GO : FnOk P w K mg base CX0 6 fO fdO ["web"] (spSpringsOf T2)) (kO : PySem.W.keepIn K (.ref fO) = true) (bO : Binds K fdO ["web"] []) (gO : mg "springs_of" = some (.ref fO)) : FnOk P w K mg base CX0 7 f fd ["web"] (spLeastLeft T1 T2) := by
  refine F.ok scLeastLeft (fun vs H Q E h => ?_) (fun cdv A outer s H vs Q E hr h => ?_)
  · obtain ⟨n, arcs, a, b, ts, rfl, _⟩ := h
    rfl
  · obtain ⟨n, arcs, a, b, ts, rfl, W, hw, hT1, hT2, q⟩ := h
    refine ⟨_, pss_cons (ps_expr (pe_call GN hr (by rfl) gN kN bN .nil pass0 (pa_cons (pv 0) pa_nil)))
      (pss_one (ps_ret (pe_callB call_len_seq (by rfl) N.len PySem.boot_len (pa_cons (pe_call GO hr (by rfl) gO kO bO .nil pass0 (pa_cons (pv 0) pa_nil)) pa_nil)))), ?_⟩
    refine ⟨.ref a, rfl, n, arcs, a, b, ts, rfl, W, hw, hT1, fun H1 k1 => ?_⟩
    refine ⟨.ref a, rfl, n, arcs, a, b, ts, rfl, W.kp k1, hw, k1.tab _ hT2, fun H2 l L k2 hl hL hH2 => ⟨l, _, rfl, .inl (SqL.of hH2), ?_⟩⟩
    have e : ((SE.srt L).map fun q => V.ref q.1).length = (keys n arcs).length := by
      have e1 := congrArg List.length hL.1
      rw [List.length_map, List.length_map] at e1
      rw [List.length_map, SE.srt_len, e1]
    rw [e]
    exact q H2 (k1.trans k2)
/-! ### is_closed -/
abbrev sIsClosed : Stmt := topS 22
theorem scIsClosed : FnScope ["web", "some", "source", "goal"] ["web", "some"] (defScope sIsClosed) := ⟨rfl, rfl, rfl, by decide +kernel, rfl, by decide +kernel, by decide +kernel⟩
def spIsClosed (T : Addr) : Sp := fun vs H Q _ => ∃ (n : Nat) (arcs : Arcs) (S : List Nat) (a b t : Addr) (ts : List Addr), vs = [.ref a, .ref t] ∧ WebAt H a b ts n arcs ∧ H t = some (.tup (vNs S)) ∧ TabG H T ∧ ∀ H', Kp H H' → Q (.bl (isClosed arcs S)) H'
theorem ok_isClosed {f c T : Addr} {fd : FuncData} (N : Names mg) (F : FunC K "is_closed" "is_closed" sIsClosed f fd c) (TB : TabB base mg c T) : FnOk P w K mg base CX0 4 f fd ["web", "some"] (spIsClosed T) := by
  refine F.ok scIsClosed (fun vs H Q E h => ?_) (fun A outer s H vs Q E hr h => ?_)
  · obtain ⟨n, arcs, S, a, b, t, ts, rfl, _⟩ := h
    rfl
  · obtain ⟨n, arcs, S, a, b, t, ts, rfl, W, ht, hT, q⟩ := h
    refine ⟨_, pss_one (ps_ret (pe_not (GA.pe_anyG (k := 0) (own := [("source", 2), ("goal", 3)]) hr (by rfl) N.any TB rfl scIsClosed.nd (gblk_by (own := [("source", 2), ("goal", 3)]) (N := ["web", "some", "source", "goal"]) (sc := defScope sIsClosed) (by decide +kernel)) (pi_tup (pe_ix ix_tup (pv 0) pe_int (fun _ _ => rfl)))
      (fun _ _ _ _ _ _ _ _ _ => pgT (n := 2) K rfl rfl (pgs_cons (pg_name (i := 2) scIsClosed.nd rfl (.inl rfl)) (pgs_cons (pg_name (i := 3) scIsClosed.nd rfl (.inl rfl)) pgs_nil)))
      (fun _ _ _ _ _ _ _ _ _ => pe_and (pe_cmpR (inS K) (pv 3) (pv 1) (by rfl)) (pe_one (pe_cmpR (notInS K) (pv 2) (pv 1) (by rfl))))))), ?_⟩
    refine ⟨.ref a, rfl, a, _, 1, _, rfl, rfl, SqT.of W.top, atI_nat (j := 1) rfl, b, rfl, ⟨_, SqT.of W.row⟩, hT, fun H2 ht2 => ?_⟩
    have k2 : Kp H H2 := Kp.tabbed hT ht2
    refine gen_it (walk_tup (xs := ts.map V.ref)) (fun i H3 => Kp H H3 ∧ ((arcs.take i).any fun r => decide (r.2 ∈ S) && !decide (r.1 ∈ S)) = false) ⟨k2, rfl⟩ (fun i H3 _ h => SqT.of (h.1.tup W.row)) (fun i x H3 H4 hi h y => ?_) (fun H3 h => ?_)
    · obtain ⟨k3, hno⟩ := h
      obtain ⟨rfl, hx⟩ := y
      obtain ⟨t2, ar, rfl, et, er, _⟩ := W.at_ hx
      have W3 := W.kp k3
      refine ⟨t2, _, rfl, SqT.of (W3.arc i t2 ar et er), rfl, vN ar.1, [vN ar.2], rfl, vN ar.2, [], rfl, rfl, rfl, ?_⟩
      have hm : ar ∈ arcs := List.mem_of_getElem? er
      refine ⟨vN ar.2, rfl, .ref t, rfl, t, _, rfl, .inr (SqT.of (k3.tup ht)), rfl, flat_ns _, _, rfl, ?_⟩
      show if (if false = true then !inV (vN ar.2) (vNs S) else inV (vN ar.2) (vNs S)) = true then _ else _
      rw [if_neg Bool.false_ne_true, in_ns]
      by_cases c1 : ar.2 ∈ S
      · rw [decide_eq_true c1]
        refine iteT ⟨vN ar.1, rfl, .ref t, rfl, t, _, rfl, .inr (SqT.of (k3.tup ht)), rfl, flat_ns _, _, rfl, ?_⟩
        show if (if true = true then !inV (vN ar.1) (vNs S) else inV (vN ar.1) (vNs S)) = true then _ else _
        rw [if_pos (show true = true from rfl), in_ns]
        by_cases c2 : ar.1 ∈ S
        · rw [decide_eq_true c2]
          refine iteF ⟨k3, ?_⟩
          rw [take_snoc er, List.any_append, hno]
          simp [c1, c2]
        · rw [decide_eq_false c2]
          refine iteT ⟨true, rfl, ?_⟩
          have e : isClosed arcs S = false := by
            rw [← Bool.not_eq_true, isClosed_iff]
            exact fun z => c2 (z ar.1 ar.2 hm c1)
          rw [e] at q
          exact q _ k3
      · rw [decide_eq_false c1]
        refine iteF ⟨false, rfl, ite_no (by decide) ⟨k3, ?_⟩⟩
        rw [take_snoc er, List.any_append, hno]
        simp [c1]
    · obtain ⟨k3, hno⟩ := h
      rw [List.length_map, W.len, List.take_length] at hno
      refine ⟨false, rfl, ?_⟩
      have e : isClosed arcs S = true := by
        unfold isClosed
        rw [hno]
        rfl
      rw [e] at q
      exact q _ k3
/-! ### all_sets -/
abbrev sAllSets : Stmt := topS 23
theorem scAllSets : FnScope ["web", "found", "person", "some"] ["web"] (defScope sAllSets) := ⟨rfl, rfl, rfl, by decide +kernel, rfl, by decide +kernel, by decide +kernel⟩
/-- rows of ints at addresses -/
def RowsAt (H : Hp) (L : List (Addr × List Nat)) : Prop := ∀ q ∈ L, H q.1 = some (.tup (vNs q.2))
abbrev refsV (L : List (Addr × List Nat)) : List V := L.map fun q => V.ref q.1
theorem RowsAt.kp {H H' : Hp} {L : List (Addr × List Nat)} (h : RowsAt H L) (k : Kp H H') : RowsAt H' L := fun q hq => k.tup (h q hq)
theorem refsV_at {L : List (Addr × List Nat)} {i : Nat} {x : V} (h : (refsV L)[i]? = some x) : ∃ q, L[i]? = some q ∧ x = .ref q.1 ∧ q ∈ L := by
  rw [List.getElem?_map] at h
  cases e : L[i]? with
  | none => rw [e] at h; cases h
  | some p =>
    rw [e] at h
    exact ⟨p, rfl, (Option.some.inj h).symm, List.mem_of_getElem? e⟩
def spAllSets : Sp := fun vs H Q _ => ∃ (n : Nat) (arcs : Arcs) (a b : Addr) (ts : List Addr), vs = [.ref a] ∧ WebAt H a b ts n arcs ∧ n ≤ 6 ∧
  ∀ H' l L, Kp H H' → H l = none → H' l = some (.lst (refsV L)) → RowsAt H' L → L.map (·.2) = setsOf (people n) → Q (.ref l) H'
theorem sets_small {n i : Nat} (h : n ≤ 6) : (setsOf ((people n).take i)).length ≤ 64 := by
  rw [setsOf_len, List.length_take, people_len]
  have : 2 ^ min i n ≤ 2 ^ 6 := Nat.pow_le_pow_right (by decide) (Nat.le_trans (Nat.min_le_right ..) h)
  exact this
theorem ok_allSets {f fP : Addr} {fd fdP : FuncData} (N : Names mg) (F : Fun K "all_sets" "all_sets" sAllSets f fd)
    (GP : FnOk P w K mg base CX0 1 fP fdP ["web"] spPeople) (kP : PySem.W.keepIn K (.ref fP) = true) (bP : Binds K fdP ["web"] []) (gP : mg "people" = some (.ref fP)) : FnOk P w K mg base CX0 2 f fd ["web"] spAllSets := by
  refine F.ok scAllSets (fun vs H Q E h => ?_) (fun cdv A outer s H vs Q E hr h => ?_)
  · obtain ⟨n, arcs, a, b, ts, rfl, _⟩ := h
    rfl
  · obtain ⟨n, arcs, a, b, ts, rfl, W, h6, q⟩ := h
    refine ⟨_, pss_cons (ps_set (i := 1) scAllSets.nd rfl (.inl rfl) (pe_lst (pa_cons (pe_tup pa_nil) pa_nil)))
      (pss_cons (ps_for PassesOwn.never rfl (pi_tup (pe_call GP hr (by rfl) gP kP bP .nil pass0 (pa_cons (pv 0) pa_nil))) (pg_name (i := 2) scAllSets.nd rfl (.inr rfl))
        (pss_one (ps_set (i := 1) scAllSets.nd rfl (.inl rfl) (pe_op op_cat (pv 1) (pe_lc (own := [("some", 3)]) rfl scAllSets.nd (pi_list (pv 1)) (blkOk_by (own := [("some", 3)]) (N := ["web", "found", "person", "some"]) (sc := defScope sAllSets) (by decide +kernel))
          (fun _ _ _ _ _ => pg_name (i := 3) scAllSets.nd rfl (.inl rfl)) (fun _ _ _ _ _ => pts_nil) (fun _ _ _ _ _ => pe_tup (paStar K rfl (pv 3) (pa_cons (pv 2) pa_nil))))))))
      (pss_one (ps_ret (pv 1)))), ?_⟩
    refine ⟨Nat.zero_le _, fun t0 ht0 => ⟨by show 1 ≤ sizeLine; decide, fun l0 hl0 => ?_⟩⟩
    have k0 : Kp H (upd H t0 (.tup [])) := Kp.new ht0
    have k1 : Kp H (upd (upd H t0 (.tup [])) l0 (.lst [.ref t0])) := k0.add hl0
    refine ⟨.ref a, rfl, n, arcs, a, b, ts, rfl, W.kp k1, by omega, fun pp hpp => ⟨pp, rfl, ⟨_, SqT.of upd_same⟩, ?_⟩⟩
    have k2 := k1.add (o := .tup (vNs (people n))) hpp
    refine for_it (walk_tup (xs := vNs (people n))) (fun i σ H' => ∃ (l : Addr) (y2 y3 : Option V) (L : List (Addr × List Nat)), σ = [some (.ref a), some (.ref l), y2, y3] ∧ Kp H H' ∧ H' pp = some (.tup (vNs (people n))) ∧ H l = none ∧ H' l = some (.lst (refsV L)) ∧ RowsAt H' L ∧ L.map (·.2) = setsOf ((people n).take i))
      ⟨l0, none, none, [(t0, [])], rfl, k2, upd_same, k0.live l0 hl0, ?_, ?_, rfl⟩ (fun i σ H' _ h => ?_) (fun i x σ H1 H2 hi h y => ?_) (fun σ H' h => ?_)
    · rw [upd_ne (ne_of_none upd_same hpp)]
      exact upd_same
    · intro q hq
      rw [List.mem_singleton.mp hq]
      have e1 : (upd (upd H t0 (.tup [])) l0 (.lst [.ref t0])) t0 = some (.tup []) := by
        rw [upd_ne (ne_of_none upd_same hl0)]
        exact upd_same
      show (upd _ pp _) t0 = _
      rw [upd_ne (ne_of_none e1 hpp)]
      exact e1
    · obtain ⟨_, _, _, _, _, _, h1, _⟩ := h
      exact SqT.of h1
    · obtain ⟨l, y2, y3, L, rfl, k, hp1, hl, hlL, hR, eL⟩ := h
      obtain ⟨rfl, hx⟩ := y
      obtain ⟨p, ep, rfl, hm⟩ := vNs_at hx
      have hsm : L.length ≤ 64 := by
        have e := congrArg List.length eL
        rw [List.length_map] at e
        rw [e]
        exact sets_small h6
      refine ⟨.ref l, rfl, .ref l, rfl, l, rfl, ⟨_, SqL.of hlL⟩, fun D hD => ?_⟩
      have hD0 : H D = none := k.live D hD
      have k3 : Kp H2 (upd H2 D (.lst [])) := Kp.new hD
      refine lc_it (walk_list (xs := refsV L)) (fun j H' => Kp H2 H' ∧ ∃ M : List (Addr × List Nat), H' D = some (.lst (refsV M)) ∧ RowsAt H' M ∧ M.map (·.2) = ((L.take j).map (·.2)).map fun S => S ++ [p])
        ⟨k3, [], upd_same, (fun _ h => nomatch h), rfl⟩ (fun j H' _ h => SqL.of (h.1.lst hlL)) (fun j x H3 H4 hj h y => ?_) (fun H' h => ?_)
      · obtain ⟨k4, M, hDM, hRM, eM⟩ := h
        obtain ⟨rfl, hx⟩ := y
        obtain ⟨qq, eq, rfl, hqm⟩ := refsV_at hx
        refine ⟨rfl, ?_⟩
        dsimp only [tYes]
        have hq3 := k4.tup (hR qq hqm)
        refine iteT ⟨.ref qq.1, rfl, qq.1, _, rfl, .inl (SqT.of hq3), vN p, rfl, ?_, fun t ht => ?_⟩
        · show (vNs qq.2 ++ [vN p]).length ≤ sizeLine
          have : qq.2 ∈ setsOf ((people n).take i) := by rw [← eL]; exact List.mem_map.mpr ⟨qq, hqm, rfl⟩
          have := ((mem_setsOf _ _).mp this).length_le
          rw [List.length_take, people_len] at this
          rw [List.length_append, List.length_map, List.length_singleton]
          exact small64' (by omega)
        · have k5 : Kp H4 (upd H4 t (.tup (vNs qq.2 ++ [vN p]))) := Kp.new ht
          refine ⟨refsV M, k5.lst hDM, ?_, ?_⟩
          · have e := congrArg List.length eM
            rw [List.length_map, List.length_map, List.length_map, List.length_take] at e
            rw [List.length_map, e]
            exact small1000 (by omega)
          · have k6 : Kp H2 (upd (upd H4 t (.tup (vNs qq.2 ++ [vN p]))) D (.lst (refsV M ++ [.ref t]))) := (k4.trans k5).put hD
            refine ⟨k6, M ++ [(t, qq.2 ++ [p])], ?_, fun r hr => ?_, ?_⟩
            · rw [upd_same]
              show _ = some (HO.lst ((M ++ [_]).map _))
              rw [List.map_append]
              rfl
            · have hne : ∀ {b : Addr} {xs : List V}, (upd H4 t (.tup (vNs qq.2 ++ [vN p]))) b = some (.tup xs) → b ≠ D := fun e => ne_of e (k5.lst hDM) (by intro z; cases z)
              rcases List.mem_append.mp hr with z | z
              · have := k5.tup (hRM r z)
                rw [upd_ne (hne this)]
                exact this
              · rw [List.mem_singleton.mp z]
                show (upd _ D _) t = _
                rw [upd_ne (hne upd_same), upd_same, vNs_snoc]
            · rw [List.map_append, eM, take_snoc eq, List.map_append, List.map_append]
              rfl
      · obtain ⟨k4, M, hDM, hRM, eM⟩ := h
        rw [List.length_map, List.take_length] at eM
        have eMl : M.length = L.length := by
          have e := congrArg List.length eM
          rw [List.length_map, List.length_map, List.length_map] at e
          exact e
        refine ⟨l, D, _, _, rfl, rfl, k4.lst hlL, hDM, ?_, fun l2 hl2 => ?_⟩
        · rw [List.length_map, List.length_map, eMl]
          exact small64' (by omega)
        · have k5 := (k.trans k4).add (o := .lst (refsV L ++ refsV M)) hl2
          refine ⟨l2, _, _, L ++ M, rfl, k5, ?_, (k.trans k4).live l2 hl2, ?_, fun r hr => ?_, ?_⟩
          · have := k4.tup hp1
            rw [upd_ne (ne_of_none this hl2)]
            exact this
          · rw [upd_same]
            show _ = some (HO.lst ((L ++ M).map _))
            rw [List.map_append]
          · have : H' r.1 = some (.tup (vNs r.2)) := by
              rcases List.mem_append.mp hr with z | z
              · exact k4.tup (hR r z)
              · exact hRM r z
            rw [upd_ne (ne_of_none this hl2)]
            exact this
          · rw [List.map_append, eM, eL, take_snoc ep, setsOf_snoc]
            rfl
    · obtain ⟨l, y2, y3, L, rfl, k, hp1, hl, hlL, hR, eL⟩ := h
      rw [List.length_map, List.take_length] at eL
      exact ⟨.ref l, rfl, q H' l L k hl hlL hR eL⟩
end
end BD
set_option maxRecDepth 100000
set_option maxHeartbeats 4000000
namespace BD
open PySem PySem.Spec PyProof.Rows L2 GxR BM
section
variable {P : Program} {w : World} {K : PySem.W.Frag} {mg : Str → Option Value} {base : Heap}
/-! ### closed_count -/
abbrev sClosedCount : Stmt := topS 24
theorem scClosedCount : FnScope ["web", "some"] ["web"] (defScope sClosedCount) := ⟨rfl, rfl, rfl, by decide +kernel, rfl, by decide +kernel, by decide +kernel⟩
def spClosedCount (T1 T3 : Addr) : Sp := fun vs H Q _ => ∃ (n : Nat) (arcs : Arcs) (a b : Addr) (ts : List Addr), vs = [.ref a] ∧ WebAt H a b ts n arcs ∧ Web n arcs ∧ TabG H T1 ∧ TabG H T3 ∧
  ∀ H', Kp H H' → Q (vN (closed n arcs).length) H'
theorem ok_closedCount {f fN fA fC T1 T3 : Addr} {fd fdN fdA fdC : FuncData} (N : Names mg) (F : Fun K "closed_count" "closed_count" sClosedCount f fd)
    (GN : FnOk P w K mg base CX0 6 fN fdN ["web"] (spNeedWeb T1)) (kN : PySem.W.keepIn K (.ref fN) = true) (bN : Binds K fdN ["web"] []) (gN : mg "need_web" = some (.ref fN))
    (GAS : FnOk P w K mg base CX0 2 fA fdA ["web"] spAllSets) (kA : PySem.W.keepIn K (.ref fA) = true) (bA : Binds K fdA ["web"] []) (gA : mg "all_sets" = some (.ref fA))
    (GC : FnOk P w K mg base CX0 4 fC fdC ["web", "some"] (spIsClosed T3)) (kC : PySem.W.keepIn K (.ref fC) = true) (bC : Binds K fdC ["web", "some"] []) (gC : mg "is_closed" = some (.ref fC)) :
    FnOk P w K mg base CX0 7 f fd ["web"] (spClosedCount T1 T3) := by
  refine F.ok scClosedCount (fun vs H Q E h => ?_) (fun cdv A outer s H vs Q E hr h => ?_)
  · obtain ⟨n, arcs, a, b, ts, rfl, _⟩ := h
    rfl
  · obtain ⟨n, arcs, a, b, ts, rfl, W, hw, hT1, hT3, q⟩ := h
    refine ⟨_, pss_cons (ps_expr (pe_call GN hr (by rfl) gN kN bN .nil pass0 (pa_cons (pv 0) pa_nil)))
      (pss_one (ps_ret (pe_callB call_len_seq (by rfl) N.len PySem.boot_len (pa_cons (pe_lc (own := [("some", 1)]) rfl scClosedCount.nd (pi_list (pe_call GAS (hr.mono (by decide)) (by rfl) gA kA bA .nil pass0 (pa_cons (pv 0) pa_nil))) (blkOk_by (own := [("some", 1)]) (N := ["web", "some"]) (sc := defScope sClosedCount) (by decide +kernel))
        (fun _ _ _ _ _ => pg_name (i := 1) scClosedCount.nd rfl (.inl rfl)) (fun _ _ _ _ _ => pts_one (pt_val (pe_call GC (hr.mono (by decide)) (by rfl) gC kC bC .nil pass0 (pa_cons (pv 0) (pa_cons (pv 1) pa_nil))))) (fun _ _ _ _ _ => pv 1)) pa_nil)))), ?_⟩
    refine ⟨.ref a, rfl, n, arcs, a, b, ts, rfl, W, hw, hT1, fun H1 k1 => ?_⟩
    refine ⟨.ref a, rfl, n, arcs, a, b, ts, rfl, W.kp k1, hw.n6, fun H2 l L k2 hl hlL hR eL => ⟨l, rfl, ⟨_, SqL.of hlL⟩, fun D hD => ?_⟩⟩
    have k3 : Kp H H2 := k1.trans k2
    have hD0 : H D = none := k3.live D hD
    refine lc_it (walk_list (xs := refsV L)) (fun j H' => Kp H2 H' ∧ ∃ xs, H' D = some (.lst xs) ∧ xs.length = (((L.map (·.2)).take j).filter (isClosed arcs)).length)
      ⟨Kp.new hD, [], upd_same, rfl⟩ (fun j H' _ h => SqL.of (h.1.lst hlL)) (fun j x H3 H4 hj h y => ?_) (fun H' h => ?_)
    · obtain ⟨k4, xs, hDx, ex⟩ := h
      obtain ⟨rfl, hx⟩ := y
      obtain ⟨qq, eq, rfl, hqm⟩ := refsV_at hx
      have eq2 : (L.map (·.2))[j]? = some qq.2 := by rw [List.getElem?_map, eq]; rfl
      refine ⟨rfl, .ref a, rfl, .ref qq.1, rfl, n, arcs, qq.2, a, b, qq.1, ts, rfl, W.kp (k3.trans k4), k4.tup (hR qq hqm), (k3.trans k4).tab _ hT3, fun H5 k5 => ⟨_, rfl, ?_⟩⟩
      have hD5 := k5.lst hDx
      by_cases c : isClosed arcs qq.2 = true
      · rw [c]
        refine iteT ⟨.ref qq.1, rfl, xs, hD5, ?_, (k4.trans k5).put hD, _, upd_same, ?_⟩
        · rw [ex]
          have h1 := filter_len_le (isClosed arcs) (L.map (·.2)) j
          have h2 := sets_small (i := n) hw.n6
          rw [eL] at h1 ⊢
          rw [List.take_of_length_le (by rw [people_len]; exact Nat.le_refl _)] at h2
          exact small1000 (by omega)
        · rw [filter_yes eq2 c, List.length_append, List.length_append, ex]
          rfl
      · rw [Bool.eq_false_iff.mpr c]
        refine iteF ⟨k4.trans k5, xs, hD5, ?_⟩
        rw [filter_no eq2 (Bool.eq_false_iff.mpr c)]
        exact ex
    · obtain ⟨k4, xs, hDx, ex⟩ := h
      refine ⟨D, xs, rfl, .inl (SqL.of hDx), ?_⟩
      have e : xs.length = (closed n arcs).length := by
        rw [ex, List.length_map, ← List.length_map (as := L) (fun q => q.2), List.take_length, eL]
        rfl
      rw [e]
      exact q H' (k3.trans k4)
/-! ### win_log -/
abbrev sWinLog : Stmt := topS 17
theorem scWinLog : FnScope ["web", "person", "seen", "found", "index", "k", "source", "goal"] ["web", "person"] (defScope sWinLog) := ⟨rfl, rfl, rfl, by decide +kernel, rfl, by decide +kernel, by decide +kernel⟩
def spWinLog (T1 : Addr) : Sp := fun vs H Q _ => ∃ (n p : Nat) (arcs : Arcs) (a b : Addr) (ts : List Addr), vs = [.ref a, vN p] ∧ WebAt H a b ts n arcs ∧ Web n arcs ∧ p ∈ people n ∧ TabG H T1 ∧
  (p ∉ winners n arcs → ∀ H', Kp H H' → Q .non H') ∧ (p ∈ winners n arcs → ∀ H' t, Kp H H' → H t = none → H' t = some (.tup (vNs (gfound arcs p (n - 1)))) → Q (.ref t) H')
theorem ok_winLog {f fN fP fO T1 : Addr} {fd fdN fdP fdO : FuncData} (N : Names mg) (F : Fun K "win_log" "win_log" sWinLog f fd)
    (GN : FnOk P w K mg base CX0 6 fN fdN ["web"] (spNeedWeb T1)) (kN : PySem.W.keepIn K (.ref fN) = true) (bN : Binds K fdN ["web"] []) (gN : mg "need_web" = some (.ref fN))
    (GP : FnOk P w K mg base CX0 2 fP fdP ["web", "person"] spNeedPerson) (kP : PySem.W.keepIn K (.ref fP) = true) (bP : Binds K fdP ["web", "person"] []) (gP : mg "need_person" = some (.ref fP))
    (GO : FnOk P w K mg base CX0 2 fO fdO ["web"] spWinnersOf) (kO : PySem.W.keepIn K (.ref fO) = true) (bO : Binds K fdO ["web"] []) (gO : mg "winners_of" = some (.ref fO)) :
    FnOk P w K mg base CX0 7 f fd ["web", "person"] (spWinLog T1) := by
  refine F.ok scWinLog (fun vs H Q E h => ?_) (fun cdv A outer s H vs Q E hr h => ?_)
  · obtain ⟨n, p, arcs, a, b, ts, rfl, _⟩ := h
    rfl
  · obtain ⟨n, p, arcs, a, b, ts, rfl, W, hw, hp, hT1, q1, q2⟩ := h
    have hpp := mem_people.mp hp
    refine ⟨_, pss_cons (ps_expr (pe_call GN hr (by rfl) gN kN bN .nil pass0 (pa_cons (pv 0) pa_nil)))
      (pss_cons (ps_expr (pe_call GP (hr.mono (by decide)) (by rfl) gP kP bP .nil pass0 (pa_cons (pv 0) (pa_cons (pv 1) pa_nil))))
      (pss_cons (ps_if (pt_cmpR (notInS K) (pv 1) (pe_call GO (hr.mono (by decide)) (by rfl) gO kO bO .nil pass0 (pa_cons (pv 0) pa_nil)) (by rfl)) (pss_one (ps_ret pe_non)) pss_nil)
      (pss_cons (ps_asg (pe_tup (pa_cons (pe_lst (pa_cons (pv 1) pa_nil)) (pa_cons (pe_lst pa_nil) pa_nil))) (pg_tup rfl (pgs_cons (pg_name (i := 2) scWinLog.nd rfl (.inr rfl)) (pgs_cons (pg_name (i := 3) scWinLog.nd rfl (.inl rfl)) pgs_nil))))
      (pss_cons (ps_while PassesOwn.never (pt_cmpR op_lt (pe_callB call_len_seq (by rfl) N.len PySem.boot_len (pa_cons (pv 2) pa_nil)) (pe_ix ix_tup (pv 0) pe_int (fun _ _ => rfl)) (nomark _))
        (pss_cons (ps_set (i := 4) scWinLog.nd rfl (.inl rfl) (pe_ix ix_list (pe_lc (own := [("k", 5), ("source", 6), ("goal", 7)]) rfl scWinLog.nd (SE.pi_enumT (by rfl) N.enumerate (pa_cons (pe_ix ix_tup (pv 0) pe_int (fun _ _ => rfl)) pa_nil))
            (blkOk_by (own := [("k", 5), ("source", 6), ("goal", 7)]) (N := ["web", "person", "seen", "found", "index", "k", "source", "goal"]) (sc := defScope sWinLog) (by decide +kernel))
            (fun _ _ _ _ _ => pgT (n := 2) K rfl rfl (pgs_cons (pg_name (i := 5) scWinLog.nd rfl (.inl rfl)) (pgs_cons (pgT (n := 2) K rfl rfl (pgs_cons (pg_name (i := 6) scWinLog.nd rfl (.inl rfl)) (pgs_cons (pg_name (i := 7) scWinLog.nd rfl (.inl rfl)) pgs_nil))) pgs_nil)))
            (fun _ _ _ _ _ => pts_one (PW.pt (pw_and (pt_cmpR (inS K) (pv 6) (pv 2) (by rfl)) (pw_and1 (pt_cmpR (notInS K) (pv 7) (pv 2) (by rfl))))))
            (fun _ _ _ _ _ => pv 5)) pe_int (fun _ _ => rfl)))
        (pss_cons (ps_expr (pe_bm PySem.F.plainAttrs_list PySem.F.slot_list_append PySem.F.type_list_append mt_append (pv 3) (pa_cons (pv 4) pa_nil)))
        (pss_one (ps_expr (pe_bm PySem.F.plainAttrs_list PySem.F.slot_list_append PySem.F.type_list_append mt_append (pv 2) (pa_cons (pe_ix ix_tup (pe_ix ix_tup (pe_ix ix_tup (pv 0) pe_int (fun _ _ => rfl)) (pv 4) (fun _ _ => rfl)) pe_int (fun _ _ => rfl)) pa_nil)))))))
      (pss_one (ps_ret (pe_callTy call_tuple_of (by rfl) N.tuple boot_tuple (pa_cons (pv 3) pa_nil)))))))), ?_⟩
    refine ⟨.ref a, rfl, n, arcs, a, b, ts, rfl, W, hw, hT1, fun H1 k1 => ?_⟩
    refine ⟨.ref a, rfl, vN p, rfl, n, p, arcs, a, b, ts, rfl, W.kp k1, hpp.1, hpp.2, ?_⟩
    refine ⟨vN p, rfl, .ref a, rfl, n, arcs, a, b, ts, rfl, W.kp k1, hw, fun H2 l k2 hl hH2 => ⟨l, _, rfl, .inl (SqL.of hH2), rfl, flat_ns _, _, rfl, ?_⟩⟩
    have k3 := k1.trans k2
    show if (if true = true then !inV (vN p) (vNs (winners n arcs)) else inV (vN p) (vNs (winners n arcs))) = true then _ else _
    rw [if_pos (show true = true from rfl), in_ns]
    by_cases hwin : p ∈ winners n arcs
    · rw [decide_eq_true hwin]
      refine iteF ?_
      -- seen, found = [person], []
      refine ⟨vN p, rfl, by show 1 ≤ sizeLine; decide, fun sl hsl => ⟨Nat.zero_le _, fun fl hfl => ⟨by show 2 ≤ sizeLine; decide, fun pr hpr => ?_⟩⟩⟩
      have k4 := k3.add (o := .lst [vN p]) hsl
      have k5 := k4.add (o := .lst []) hfl
      have k6 := k5.add (o := .tup [.ref sl, .ref fl]) hpr
      have hs0 : H sl = none := k3.live sl hsl
      have hf0 : H fl = none := k4.live fl hfl
      have nsf : sl ≠ fl := ne_of_none upd_same hfl
      refine ⟨pr, _, rfl, SqT.of upd_same, rfl, .ref sl, [.ref fl], rfl, .ref fl, [], rfl, rfl, ?_⟩
      refine ⟨fun m σ H' => ∃ (t : Nat) (y4 : Option V), m = n - t ∧ t < n ∧ σ = [some (.ref a), some (vN p), some (.ref sl), some (.ref fl), y4, none, none, none] ∧ Kp H H' ∧ H' sl = some (.lst (vNs (gseen arcs p t))) ∧ H' fl = some (.lst (vNs (gfound arcs p t))),
        ⟨_, 0, none, rfl, by have := hw.n1; omega, rfl, k6, ?_, ?_⟩, fun m σ H' hW => ?_⟩
      · rw [upd_ne (ne_of_none (o := .lst [vN p]) ?_ hpr), upd_ne nsf]
        · exact upd_same
        · rw [upd_ne nsf]
          exact upd_same
      · rw [upd_ne (ne_of_none upd_same hpr)]
        exact upd_same
      obtain ⟨t, y4, rfl, ht, rfl, k, hs, hf⟩ := hW
      have W7 := W.kp k
      refine ⟨.ref sl, rfl, sl, _, rfl, .inl (SqL.of hs), .ref a, rfl, a, _, 0, _, rfl, rfl, SqT.of W7.top, atI_nat (j := 0) rfl, _, n, rfl, rfl, _, rfl, ?_⟩
      have el : ((vNs (gseen arcs p t)).length : Int) = (t : Int) + 1 := by
        rw [List.length_map, gseen_len]
        omega
      rw [el]
      by_cases hlt : t + 1 < n
      · rw [decide_eq_true (show (t : Int) + 1 < (n : Int) by omega)]
        refine iteT ⟨fun σ2 H2 => ∃ (y4 : Option V), σ2 = [some (.ref a), some (vN p), some (.ref sl), some (.ref fl), y4, none, none, none] ∧ Kp H H2 ∧ H2 sl = some (.lst (vNs (gseen arcs p (t + 1)))) ∧ H2 fl = some (.lst (vNs (gfound arcs p (t + 1)))),
          fun σ2 H2 hN => ?_, ?_⟩
        · obtain ⟨z4, e, h1, h2, h3⟩ := hN
          exact ⟨n - (t + 1), by omega, t + 1, z4, rfl, hlt, e, h1, h2, h3⟩
        obtain ⟨ar, rest, epick, pk, egoal⟩ := gpicked hw hwin hlt
        -- the comprehension
        refine ⟨.ref a, rfl, a, _, 1, _, rfl, rfl, SqT.of W7.top, atI_nat (j := 1) rfl, b, _, rfl, W7.row, fun D hD => ?_⟩
        have hD0 := k.live D hD
        refine lc_it (SE.walk_enumT (a := b) (xs := ts.map V.ref)) (fun i H3 => Kp H' H3 ∧ H3 D = some (.lst (vNs (pickTo arcs (gseen arcs p t) i)))) ⟨Kp.new hD, upd_same⟩ (fun i H3 _ h => h.1.tup W7.row) (fun i x H3 H4 hi h y => ?_) (fun H3 h => ?_)
        · obtain ⟨k8, hDx⟩ := h
          obtain ⟨Tp, x0, x1, rfl, hTp, rfl, e0, e1⟩ := y
          obtain rfl : V.int (i : Int) = x0 := Option.some.inj e0
          obtain ⟨t2, r, rfl, et, er, _⟩ := W.at_ e1
          have k9 : Kp H' (upd H3 Tp (.tup [.int (i : Int), .ref t2])) := k8.add hTp
          have W9 := W7.kp k9
          have hD9 : (upd H3 Tp (.tup [.int (i : Int), .ref t2])) D = some (.lst (vNs (pickTo arcs (gseen arcs p t) i))) := by
            rw [upd_ne (ne_of_none hDx hTp)]
            exact hDx
          refine ⟨Tp, [.int (i : Int), .ref t2], rfl, SqT.of upd_same, rfl, .int (i : Int), [.ref t2], rfl, .ref t2, [], rfl, ?_⟩
          refine ⟨t2, _, rfl, SqT.of (W9.arc i t2 r et er), rfl, vN r.1, [vN r.2], rfl, vN r.2, [], rfl, rfl, rfl, rfl, ?_⟩
          have hs9 := k9.lst hs
          rw [pickTo_succ, sel_at er]
          refine ⟨vN r.1, rfl, .ref sl, rfl, sl, _, rfl, .inl (SqL.of hs9), rfl, flat_ns _, _, rfl, ?_⟩
          show if (if false = true then !inV (vN r.1) (vNs (gseen arcs p t)) else inV (vN r.1) (vNs (gseen arcs p t))) = true then _ else _
          rw [if_neg Bool.false_ne_true, in_ns]
          by_cases c1 : r.1 ∈ gseen arcs p t
          · rw [decide_eq_true c1]
            refine iteT ⟨vN r.2, rfl, .ref sl, rfl, sl, _, rfl, .inl (SqL.of hs9), rfl, flat_ns _, _, rfl, ?_⟩
            show if (if true = true then !inV (vN r.2) (vNs (gseen arcs p t)) else inV (vN r.2) (vNs (gseen arcs p t))) = true then _ else _
            rw [if_pos (show true = true from rfl), in_ns]
            by_cases c2 : r.2 ∈ gseen arcs p t
            · rw [decide_eq_true c2]
              refine iteF ⟨k9, ?_⟩
              rw [show (if (true && !true) = true then [i] else []) = ([] : List Nat) from rfl, List.append_nil]
              exact hD9
            · rw [decide_eq_false c2]
              refine iteT ⟨.int (i : Int), rfl, _, hD9, ?_, k9.put hD, ?_⟩
              · rw [List.length_map]
                have := pickTo_len arcs (gseen arcs p t) i
                rw [List.length_map, W.len] at hi
                have := hw.len
                exact small1000 (by omega)
              · rw [upd_same, show V.int (i : Int) = vN i from rfl, vNs_snoc]
                rfl
          · rw [decide_eq_false c1]
            refine iteF ⟨k9, ?_⟩
            rw [show (if (false && !decide (r.2 ∈ gseen arcs p t)) = true then [i] else []) = ([] : List Nat) from rfl, List.append_nil]
            exact hD9
        · obtain ⟨k8, hDx⟩ := h
          rw [List.length_map, W.len, show pickTo arcs (gseen arcs p t) arcs.length = pick arcs (gseen arcs p t) from rfl, epick] at hDx
          have hs8 := k8.lst hs
          have hf8 := k8.lst hf
          have k10 := k.trans k8
          refine ⟨D, _, 0, vN (gnext arcs (gseen arcs p t)), rfl, rfl, SqL.of hDx, atI_nat (j := 0) rfl, ?_⟩
          -- found.append(index)
          refine ⟨.ref fl, rfl, .inl ⟨rfl, _, .inl (.inl hf8)⟩, vN (gnext arcs (gseen arcs p t)), rfl, fl, _, _, rfl, rfl, hf8, ?_, ?_⟩
          · rw [List.length_map, gfound_len]
            have := hw.n6
            exact small1000 (by omega)
          rw [vNs_snoc]
          have k11 := k10.put (o := .lst (vNs (gfound arcs p t ++ [gnext arcs (gseen arcs p t)]))) hf0
          have W11 := W.kp k11
          have hs11 : (upd H3 fl (.lst (vNs (gfound arcs p t ++ [gnext arcs (gseen arcs p t)])))) sl = some (.lst (vNs (gseen arcs p t))) := by
            rw [upd_ne nsf]
            exact hs8
          have hk : gnext arcs (gseen arcs p t) < ts.length := by rw [W.len]; exact pk.lt
          have et : ts[gnext arcs (gseen arcs p t)]? = some ts[gnext arcs (gseen arcs p t)] := List.getElem?_eq_getElem hk
          have ert : (ts.map V.ref)[gnext arcs (gseen arcs p t)]? = some (.ref ts[gnext arcs (gseen arcs p t)]) := by rw [List.getElem?_map, et]; rfl
          refine ⟨.ref sl, rfl, .inl ⟨rfl, _, .inl (.inl hs11)⟩, .ref a, rfl, a, _, 1, _, rfl, rfl, SqT.of W11.top, atI_nat (j := 1) rfl, vN (gnext arcs (gseen arcs p t)), rfl, b, _, _, _, rfl, rfl, SqT.of W11.row, atI_nat ert,
            _, _, 1, _, rfl, rfl, SqT.of (W11.arc _ _ _ et pk.at_), atI_nat (j := 1) rfl, sl, _, _, rfl, rfl, hs11, ?_, ?_⟩
          · rw [List.length_map, gseen_len]
            have := hw.n6
            exact small1000 (by omega)
          · refine ⟨_, rfl, k11.put hs0, ?_, ?_⟩
            · rw [upd_same, vNs_snoc, ← egoal]
              rfl
            · rw [upd_ne nsf.symm, upd_same]
              rfl
      · have e1 : t = n - 1 := by omega
        rw [decide_eq_false (show ¬ ((t : Int) + 1 < (n : Int)) by omega)]
        refine iteF ⟨.ref fl, rfl, fl, _, rfl, .inl ⟨SqL.of hf, fun tp htp => ?_⟩⟩
        rw [e1]
        exact q2 hwin _ tp (k.add htp) (k.live tp htp) upd_same
    · rw [decide_eq_false hwin]
      exact iteT (q1 hwin _ k3)
end
end BD
set_option maxRecDepth 100000
set_option maxHeartbeats 4000000
namespace BD
open PySem PySem.Spec PyProof.Rows L2 GxR BM
/-! ### the draws -/
/-- the script at sc, whatever stands at r -/
def Sc (K : PySem.W.Frag) (H : Hp) (r sc : Addr) (ns : List Int) : Prop := (sc ≠ r ∧ Rd H sc (.lst (ns.map V.int))) ∨
  ∃ (o : Obj) (its : Array Value) (n : Nat), K.lookup sc = some o ∧ o.cls = .type "list" ∧ o.dict = none ∧ o.data = .seq its n ∧ its.size ≤ sizeLine ∧ Vals (ns.map V.int) its.toList
theorem Sc.sq {K : PySem.W.Frag} {H : Hp} {r sc : Addr} {ns : List Int} (h : Sc K H r sc ns) : SqL K H sc (ns.map V.int) := h.elim (fun z => .inl z.2) .inr
theorem Sc.put {K : PySem.W.Frag} {H : Hp} {r sc : Addr} {ns : List Int} {o : HO} (h : Sc K H r sc ns) : Sc K (upd H r o) r sc ns := by
  rcases h with ⟨h1, h2 | ⟨ob, h2⟩⟩ | h
  · exact .inl ⟨h1, .inl (by rw [upd_ne h1]; exact h2)⟩
  · exact .inl ⟨h1, .inr ⟨ob, by rw [upd_ne h1]; exact h2⟩⟩
  · exact .inr h
theorem Sc.kp {K : PySem.W.Frag} {H H' : Hp} {r sc : Addr} {ns : List Int} (h : Sc K H r sc ns) (k : Kp H H') : Sc K H' r sc ns := by
  rcases h with ⟨h1, h2 | ⟨ob, h2⟩⟩ | h
  · exact .inl ⟨h1, .inl (k.lst h2)⟩
  · exact .inl ⟨h1, .inr ⟨ob, k.at_ _ _ h2 fun _ z => nomatch z⟩⟩
  · exact .inr h
def RowL (sc : Addr) (ys : List V) : Prop := ∃ c x y : Int, ys = [.ref sc, .int c, .int x, .int y] ∧ 0 ≤ c ∧ 0 ≤ x ∧ x < 2147483648 ∧ 0 ≤ y
section
variable {P : Program} {w : World} {K : PySem.W.Frag} {mg : Str → Option Value} {base : Heap}
abbrev sTaken : Stmt := topS 26
theorem scTaken : FnScope ["_law_row", "_law_many", "_law_found", "_law_cell"] ["_law_row", "_law_many"] (defScope sTaken) := ⟨rfl, rfl, rfl, by decide +kernel, rfl, by decide +kernel, by decide +kernel⟩
def spTaken (K : PySem.W.Frag) : Sp := fun vs H Q _ => ∃ (r sc : Addr) (m : Int) (ns : List Int) (ys : List V), vs = [.ref r, .int m] ∧ H r = some (.lst ys) ∧ RowL sc ys ∧ Sc K H r sc ns ∧ 1 ≤ m ∧ m ≤ 1000 ∧
  ∀ (k : Int) (ys' : List V), 0 ≤ k → k < m → RowL sc ys' → Q (.int k) (upd H r (.lst ys'))
theorem ok_taken {f : Addr} {fd : FuncData} (N : Names mg) (F : Fun K "_law_taken" "_law_taken" sTaken f fd) : FnOk P w K mg base CX0 1 f fd ["_law_row", "_law_many"] (spTaken K) := by
  refine F.ok scTaken (fun vs H Q E h => ?_) (fun cdv A outer s H vs Q E hr h => ?_)
  · obtain ⟨r, sc, m, ns, ys, rfl, _⟩ := h
    rfl
  · obtain ⟨r, sc, m, ns, ys, rfl, hrow, ⟨c, x, y, rfl, hc, hx, hx2, hy⟩, hsc, hm, hm2, q⟩ := h
    refine ⟨_, pss_cons (ps_if (pt_cmpR op_gt (pe_ix ix_list (pv 0) pe_int (fun _ _ => rfl)) pe_int (nomark _))
        (pss_cons (ps_set (i := 2) scTaken.nd rfl (.inl rfl) (pe_op op_mod (pe_callTy call_int1 (by rfl) N.int boot_int (pa_cons (pe_ix ix_list (pv 0) pe_int (fun _ _ => rfl)) pa_nil)) (pv 1)))
        (pss_cons (ps_asg (pe_op op_fdivW (pe_ix ix_list (pv 0) pe_int (fun _ _ => rfl)) (pv 1)) (pg_sub (pv 0) pe_int set_list))
        (pss_one (ps_ret (pv 2))))) pss_nil)
      (pss_cons (ps_asg (pe_op op_add (pe_ix ix_list (pv 0) pe_int (fun _ _ => rfl)) pe_int) (pg_sub (pv 0) pe_int set_list))
      (pss_cons (ps_if (pt_cmpR op_gt (pe_ix ix_list (pv 0) pe_int (fun _ _ => rfl)) (pe_callB call_len_seq (by rfl) N.len PySem.boot_len (pa_cons (pe_ix ix_list (pv 0) pe_int (fun _ _ => rfl)) pa_nil)) (nomark _))
        (pss_cons (ps_asg (pe_op op_mod (pe_callTy call_int1 (by rfl) N.int boot_int (pa_cons (pe_op op_add (pe_op op_mul (pe_ix ix_list (pv 0) pe_int (fun _ _ => rfl)) pe_int) pe_int) pa_nil)) pe_int) (pg_sub (pv 0) pe_int set_list))
        (pss_one (ps_ret (pe_op op_mod (pe_callTy call_int1 (by rfl) N.int boot_int (pa_cons (pe_op op_fdivW (pe_ix ix_list (pv 0) pe_int (fun _ _ => rfl)) pe_int) pa_nil)) (pv 1))))) pss_nil)
      (pss_cons (ps_set (i := 3) scTaken.nd rfl (.inl rfl) (pe_ix ix_list (pe_ix ix_list (pv 0) pe_int (fun _ _ => rfl)) (pe_op op_sub (pe_ix ix_list (pv 0) pe_int (fun _ _ => rfl)) pe_int) (fun _ _ => rfl)))
      (pss_cons (ps_asg (pe_op op_mod (pe_callTy call_int1 (by rfl) N.int boot_int (pa_cons (pe_op op_add (pe_op op_add (pe_op op_mul (pe_ix ix_list (pv 0) pe_int (fun _ _ => rfl)) pe_int) (pv 3)) pe_int) pa_nil)) pe_int) (pg_sub (pv 0) pe_int set_list))
      (pss_cons (ps_if (pt_cmpR op_ge (pv 3) (pe_op op_pow pe_int pe_int) (nomark _))
        (pss_one (ps_asg (pe_op op_fdivW (pv 3) (pv 1)) (pg_sub (pv 0) pe_int set_list))) pss_nil)
      (pss_one (ps_ret (pe_op op_mod (pe_callTy call_int1 (by rfl) N.int boot_int (pa_cons (pv 3) pa_nil)) (pv 1))))))))), ?_⟩
    have hdm : ∀ i : Int, CDivW i m := fun i => wide_div (b := 20) (by omega) (Nat.lt_of_le_of_lt (show m.natAbs ≤ 1000 by omega) (by decide)) (by decide) (by decide)
    have hd7 : ∀ i : Int, CDivW i 7 := fun i => wide_div (b := 20) (by decide) (by decide) (by decide) (by decide)
    have xmul : ∀ z : Int, 0 ≤ z → z < 2147483648 → CMul z 48271 := fun z h1 h2 => .inl ⟨by omega, by omega⟩
    have md : ∀ z : Int, 0 ≤ z % m ∧ z % m < m := fun z => ⟨Int.emod_nonneg z (by omega), Int.emod_lt_of_pos z (by omega)⟩
    have md2 : ∀ z : Int, 0 ≤ z % 2147483647 ∧ z % 2147483647 < 2147483648 := fun z => ⟨Int.emod_nonneg z (by decide), by have := Int.emod_lt_of_pos z (b := 2147483647) (by decide); omega⟩
    refine ⟨.ref r, rfl, r, _, 3, .int y, rfl, rfl, SqL.of hrow, atI_nat (j := 3) rfl, y, 0, rfl, rfl, _, rfl, ?_⟩
    by_cases h0 : 0 < y
    · rw [decide_eq_true h0]
      refine iteT ⟨.ref r, rfl, r, _, 3, .int y, rfl, rfl, SqL.of hrow, atI_nat (j := 3) rfl, .inl ⟨y, rfl, .int m, rfl, y, m, rfl, rfl, by show (0 : Int) < m; omega, ?_⟩⟩
      refine ⟨.ref r, rfl, r, _, 3, .int y, rfl, rfl, SqL.of hrow, atI_nat (j := 3) rfl, .int m, rfl, y, m, rfl, rfl, hdm y, ?_⟩
      refine ⟨.ref r, rfl, r, _, 3, 3, rfl, rfl, hrow, rfl, .int (y % m), rfl, ?_⟩
      exact q _ _ (md y).1 (md y).2 ⟨c, x, y / m, rfl, hc, hx, hx2, Int.ediv_nonneg (by omega) (by omega)⟩
    · have hy0 : y = 0 := by omega
      subst hy0
      rw [decide_eq_false h0]
      refine iteF ⟨.ref r, rfl, r, _, 1, .int c, rfl, rfl, SqL.of hrow, atI_nat (j := 1) rfl, c, 1, rfl, rfl, ?_⟩
      refine ⟨.ref r, rfl, r, _, 1, 1, rfl, rfl, hrow, rfl, ?_⟩
      show _
      have hrow1 : (upd H r (.lst [.ref sc, .int (c + 1), .int x, .int 0])) r = some (.lst [.ref sc, .int (c + 1), .int x, .int 0]) := upd_same
      have hsc1 : Sc K (upd H r (.lst [.ref sc, .int (c + 1), .int x, .int 0])) r sc ns := hsc.put
      refine ⟨.ref r, rfl, r, _, 1, .int (c + 1), rfl, rfl, SqL.of hrow1, atI_nat (j := 1) rfl, .ref r, rfl, r, _, 0, .ref sc, rfl, rfl, SqL.of hrow1, atI_nat (j := 0) rfl, sc, _, rfl, .inl hsc1.sq, c + 1, _, rfl, rfl, _, rfl, ?_⟩
      rw [List.length_map]
      by_cases h1 : (ns.length : Int) < c + 1
      · rw [decide_eq_true h1]
        refine iteT ⟨.ref r, rfl, r, _, 2, .int x, rfl, rfl, SqL.of hrow1, atI_nat (j := 2) rfl, x, 48271, rfl, rfl, xmul x hx hx2, _, 11, rfl, rfl, .inl ⟨_, rfl, _, 2147483647, rfl, rfl, by show (0 : Int) < 2147483647; decide, ?_⟩⟩
        refine ⟨.ref r, rfl, r, _, 2, 2, rfl, rfl, hrow1, rfl, ?_⟩
        rw [upd_upd]
        have e2 : (upd H r (.lst [.ref sc, .int (c + 1), .int ((x * 48271 + 11) % 2147483647), .int 0])) r = some (.lst [.ref sc, .int (c + 1), .int ((x * 48271 + 11) % 2147483647), .int 0]) := upd_same
        refine ⟨.ref r, rfl, r, _, 2, _, rfl, rfl, SqL.of e2, atI_nat (j := 2) rfl, _, 7, rfl, rfl, hd7 _, .inl ⟨_, rfl, .int m, rfl, _, m, rfl, rfl, by show (0 : Int) < m; omega, ?_⟩⟩
        exact q _ _ (md _).1 (md _).2 ⟨c + 1, _, 0, rfl, by omega, (md2 _).1, (md2 _).2, by omega⟩
      · rw [decide_eq_false h1]
        obtain ⟨j, ej⟩ : ∃ j : Nat, c = (j : Int) := ⟨c.toNat, by omega⟩
        have hj : j < ns.length := by omega
        have eat : (ns.map V.int)[j]? = some (.int ns[j]) := by rw [List.getElem?_map, List.getElem?_eq_getElem hj]; rfl
        refine iteF ⟨.ref r, rfl, r, _, 0, .ref sc, rfl, rfl, SqL.of hrow1, atI_nat (j := 0) rfl, .ref r, rfl, r, _, 1, .int (c + 1), rfl, rfl, SqL.of hrow1, atI_nat (j := 1) rfl, c + 1, 1, rfl, rfl, sc, _, _, .int ns[j], rfl, rfl, hsc1.sq, ?_, ?_⟩
        · rw [show c + 1 - 1 = (j : Int) by omega]
          exact atI_nat eat
        generalize ns[j] = cell
        refine ⟨.ref r, rfl, r, _, 2, .int x, rfl, rfl, SqL.of hrow1, atI_nat (j := 2) rfl, x, 48271, rfl, rfl, xmul x hx hx2, .int cell, rfl, _, cell, rfl, rfl, _, 11, rfl, rfl, .inl ⟨_, rfl, _, 2147483647, rfl, rfl, by show (0 : Int) < 2147483647; decide, ?_⟩⟩
        refine ⟨.ref r, rfl, r, _, 2, 2, rfl, rfl, hrow1, rfl, ?_⟩
        rw [upd_upd]
        have e2 : (upd H r (.lst [.ref sc, .int (c + 1), .int ((x * 48271 + cell + 11) % 2147483647), .int 0])) r = some (.lst [.ref sc, .int (c + 1), .int ((x * 48271 + cell + 11) % 2147483647), .int 0]) := upd_same
        refine ⟨.int cell, rfl, 10, 18, rfl, rfl, ⟨by decide, by decide, by decide⟩, cell, _, rfl, rfl, _, rfl, ?_⟩
        by_cases h2 : (10 : Int) ^ (18 : Int).toNat ≤ cell
        · rw [decide_eq_true h2]
          refine iteT ⟨.int cell, rfl, .int m, rfl, cell, m, rfl, rfl, hdm cell, .ref r, rfl, r, _, 3, 3, rfl, rfl, e2, rfl, ?_⟩
          rw [upd_upd]
          refine ⟨.int cell, rfl, .inl ⟨cell, rfl, .int m, rfl, cell, m, rfl, rfl, by show (0 : Int) < m; omega, ?_⟩⟩
          have h3 : (0 : Int) ≤ cell := Int.le_trans (by decide) h2
          exact q _ _ (md _).1 (md _).2 ⟨c + 1, _, cell / m, rfl, by omega, (md2 _).1, (md2 _).2, Int.ediv_nonneg h3 (by omega)⟩
        · rw [decide_eq_false h2]
          refine iteF ?_
          refine ⟨.int cell, rfl, .inl ⟨cell, rfl, .int m, rfl, cell, m, rfl, rfl, by show (0 : Int) < m; omega, ?_⟩⟩
          exact q _ _ (md _).1 (md _).2 ⟨c + 1, _, 0, rfl, by omega, (md2 _).1, (md2 _).2, by omega⟩
end
end BD
set_option maxRecDepth 100000
set_option maxHeartbeats 4000000
namespace BD
open PySem PySem.Spec PyProof.Rows L2 GxR BM
/-! ### the law's own sameness -/
def REq0 (H : Hp) (x y : V) : Prop := ∃ i : Int, x = .int i ∧ y = .int i
def REqT (R : Hp → V → V → Prop) (H : Hp) (x y : V) : Prop := ∃ (a b : Addr) (xs ys : List V), x = .ref a ∧ y = .ref b ∧ H a = some (.tup xs) ∧ H b = some (.tup ys) ∧ xs.length = ys.length ∧ xs.length ≤ 1000 ∧ ∀ (i : Nat) (u v : V), xs[i]? = some u → ys[i]? = some v → R H u v
def Stays (R : Hp → V → V → Prop) : Prop := ∀ H H' x y, Kp H H' → R H x y → R H' x y
theorem stays0 : Stays REq0 := fun _ _ _ _ _ h => h
theorem staysT {R : Hp → V → V → Prop} (s : Stays R) : Stays (REqT R) := by
  rintro H H' x y k ⟨a, b, xs, ys, e1, e2, h1, h2, h3, h4, h5⟩
  exact ⟨a, b, xs, ys, e1, e2, k.tup h1, k.tup h2, h3, h4, fun i u v q1 q2 => s _ _ _ _ k (h5 i u v q1 q2)⟩
def spAlike (R : Hp → V → V → Prop) : Sp := fun vs H Q _ => ∃ x y, vs = [x, y] ∧ R H x y ∧ ∀ H', Kp H H' → Q (.bl true) H'
section
variable {P : Program} {w : World} {K : PySem.W.Frag} {mg : Str → Option Value} {base : Heap}
abbrev sAlike : Stmt := topS 28
theorem scAlike : FnScope ["_law_found", "_law_due", "_law_k"] ["_law_found", "_law_due"] (defScope sAlike) := ⟨rfl, rfl, rfl, by decide +kernel, rfl, by decide +kernel, by decide +kernel⟩
theorem kitTL {t : String} {r : Bool} (h1 : kitB t "tuple" = some r) (h2 : kitB t "list" = some false) : PySem.W.kitAny K (.type t) [.type "tuple", .type "list"] = some r := by
  cases r with
  | true => exact kitAny_cons (b := true) (kit_ty h1) (fun z => nomatch z) fun _ => rfl
  | false => exact kitAny_cons (b := false) (kit_ty h1) (fun _ => kitAny_cons (b := false) (kit_ty h2) (fun _ => rfl) fun z => nomatch z) fun z => nomatch z
theorem ok_alike0 {f : Addr} {fd : FuncData} (N : Names mg) (F : Fun K "_law_alike" "_law_alike" sAlike f fd) : FnOk P w K mg base CX0 1 f fd ["_law_found", "_law_due"] (spAlike REq0) := by
  refine F.ok scAlike (fun vs H Q E h => ?_) (fun cdv A outer s H vs Q E hr h => ?_)
  · obtain ⟨x, y, rfl, _⟩ := h
    rfl
  · obtain ⟨x, y, rfl, ⟨i, rfl, rfl⟩, q⟩ := h
    refine ⟨_, pss_cons (ps_if (pt_val (pe_callB call_isiT (by rfl) N.isi boot_isinstance (pa_cons (pv 1) (pa_cons (pe_tup (pa_cons (pe_bltn (v := .ty "tuple") (by rfl) N.tuple boot_tuple rfl) (pa_cons (pe_bltn (v := .ty "list") (by rfl) N.list boot_list rfl) pa_nil))) pa_nil)))) pss_never pss_nil)
      (pss_cons (ps_if (PW.pt (pw_or (pt_cmp (pc_isN (pv 1))) (pw_or1 (pt_val (pe_callB call_isi (by rfl) N.isi boot_isinstance (pa_cons (pv 1) (pa_cons (pe_bltn (v := .ty "str") (by rfl) N.str boot_str rfl) pa_nil))))))) pss_never pss_nil)
      (pss_one (ps_ret (pe_and (pe_callB call_isi (by rfl) N.isi boot_isinstance (pa_cons (pv 0) (pa_cons (pe_bltn (v := .ty "int") (by rfl) N.int boot_int rfl) pa_nil)))
        (pe_and (pe_cmpR op_eq (pe_callB call_isi (by rfl) N.isi boot_isinstance (pa_cons (pv 0) (pa_cons (pe_bltn (v := .ty "bool") (by rfl) N.bool boot_bool rfl) pa_nil))) (pe_callB call_isi (by rfl) N.isi boot_isinstance (pa_cons (pv 1) (pa_cons (pe_bltn (v := .ty "bool") (by rfl) N.bool boot_bool rfl) pa_nil))) (nomark _))
          (pe_one (pe_cmpR op_eq (pv 0) (pv 1) (nomark _)))))))), ?_⟩
    refine ⟨.int i, rfl, by decide, fun tp htp => ⟨.int i, tp, _, .type "int", [.type "tuple", .type "list"], false, rfl, upd_same, .cons (.ty _) (.cons (.ty _) .nil), .base (.int i), kitTL (by decide +kernel) (by decide +kernel), false, rfl, iteF ?_⟩⟩
    have k1 : Kp H (upd H tp (.tup [.ty "tuple", .ty "list"])) := Kp.new htp
    refine ⟨.int i, rfl, _, rfl, iteF ⟨.int i, rfl, .int i, .ty "str", .type "int", .type "str", false, rfl, .ty "str", .base (.int i), kit_ty (by decide +kernel), false, rfl, iteF ?_⟩⟩
    refine ⟨.int i, rfl, .int i, .ty "int", .type "int", .type "int", true, rfl, .ty "int", .base (.int i), kit_ty (by decide +kernel), true, rfl, iteT ?_⟩
    refine ⟨.int i, rfl, .int i, .ty "bool", .type "int", .type "bool", false, rfl, .ty "bool", .base (.int i), kit_ty (by decide +kernel), .int i, rfl, .int i, .ty "bool", .type "int", .type "bool", false, rfl, .ty "bool", .base (.int i), kit_ty (by decide +kernel), rfl, true, rfl, iteT ?_⟩
    refine ⟨.int i, rfl, .int i, rfl, rfl, ?_⟩
    rw [decide_eq_true rfl]
    exact q _ k1
theorem ok_alikeS {f : Addr} {fd : FuncData} {k : Nat} {R : Hp → V → V → Prop} (N : Names mg) (F : Fun K "_law_alike" "_law_alike" sAlike f fd) (hR : Stays R)
    (GE : FnOk P w K mg base CX0 k f fd ["_law_found", "_law_due"] (spAlike R)) (bF : Binds K fd ["_law_found", "_law_due"] []) (gF : mg "_law_alike" = some (.ref f)) :
    FnOk P w K mg base CX0 (k + 1) f fd ["_law_found", "_law_due"] (spAlike (REqT R)) := by
  refine F.ok scAlike (fun vs H Q E h => ?_) (fun cdv A outer s H vs Q E hr h => ?_)
  · obtain ⟨x, y, rfl, _⟩ := h
    rfl
  · obtain ⟨x, y, rfl, ⟨a, b, xs, ys, rfl, rfl, ha, hb, hl, hl2, hR1⟩, q⟩ := h
    refine ⟨_, pss_cons (ps_if (pt_val (pe_callB call_isiT (by rfl) N.isi boot_isinstance (pa_cons (pv 1) (pa_cons (pe_tup (pa_cons (pe_bltn (v := .ty "tuple") (by rfl) N.tuple boot_tuple rfl) (pa_cons (pe_bltn (v := .ty "list") (by rfl) N.list boot_list rfl) pa_nil))) pa_nil))))
        (pss_cons (ps_if (PW.pt (pw_or (pt_not (pt_val (pe_callB call_isiT (by rfl) N.isi boot_isinstance (pa_cons (pv 0) (pa_cons (pe_tup (pa_cons (pe_bltn (v := .ty "tuple") (by rfl) N.tuple boot_tuple rfl) (pa_cons (pe_bltn (v := .ty "list") (by rfl) N.list boot_list rfl) pa_nil))) pa_nil)))))
          (pw_or1 (pt_cmpR op_ne (pe_callB call_isi (by rfl) N.isi boot_isinstance (pa_cons (pv 0) (pa_cons (pe_bltn (v := .ty "list") (by rfl) N.list boot_list rfl) pa_nil))) (pe_callB call_isi (by rfl) N.isi boot_isinstance (pa_cons (pv 1) (pa_cons (pe_bltn (v := .ty "list") (by rfl) N.list boot_list rfl) pa_nil))) (nomark _))))) pss_never pss_nil)
        (pss_cons (ps_if (pt_cmpR op_ne (pe_callB call_len_seq (by rfl) N.len PySem.boot_len (pa_cons (pv 0) pa_nil)) (pe_callB call_len_seq (by rfl) N.len PySem.boot_len (pa_cons (pv 1) pa_nil)) (nomark _)) pss_never pss_nil)
        (pss_one (ps_ret (pe_cmpR (op_eqD (hu64 hr)) (pe_lc (own := [("_law_k", 2)]) rfl scAlike.nd (pi_range1 (by rfl) N.range (pa_cons (pe_callB call_len_seq (by rfl) N.len PySem.boot_len (pa_cons (pv 1) pa_nil)) pa_nil)) (blkOk_by (own := [("_law_k", 2)]) (N := ["_law_found", "_law_due", "_law_k"]) (sc := defScope sAlike) (by decide +kernel))
          (fun _ _ _ _ _ => pg_name (i := 2) scAlike.nd rfl (.inl rfl))
          (fun _ _ _ _ _ => pts_one (pt_not (pt_val (pe_call GE hr (by rfl) gF F.kp bF .nil pass0 (pa_cons (pe_ix (ixT K) (pv 0) (pv 2) (fun _ _ => rfl)) (pa_cons (pe_ix (ixT K) (pv 1) (pv 2) (fun _ _ => rfl)) pa_nil))))))
          (fun _ _ _ _ _ => pv 2)) (pe_lst pa_nil) (nomark _)))))) pss_nil)
      pss_never, ?_⟩
    refine ⟨.ref b, rfl, by decide, fun tp htp => ⟨.ref b, tp, _, .type "tuple", [.type "tuple", .type "list"], true, rfl, upd_same, .cons (.ty _) (.cons (.ty _) .nil), .base (.tup ((Kp.new htp).tup hb)), kitTL (by decide +kernel) (by decide +kernel), true, rfl, iteT ?_⟩⟩
    have k1 : Kp H (upd H tp (.tup [.ty "tuple", .ty "list"])) := Kp.new htp
    refine ⟨.ref a, rfl, by decide, fun tq htq => ?_⟩
    have k2 : Kp H (upd (upd H tp (.tup [.ty "tuple", .ty "list"])) tq (.tup [.ty "tuple", .ty "list"])) := k1.add htq
    refine ⟨.ref a, tq, _, .type "tuple", [.type "tuple", .type "list"], true, rfl, upd_same, .cons (.ty _) (.cons (.ty _) .nil), .base (.tup (k2.tup ha)), kitTL (by decide +kernel) (by decide +kernel), true, rfl, iteF ?_⟩
    refine ⟨.ref a, rfl, .ref a, .ty "list", .type "tuple", .type "list", false, rfl, .ty "list", .base (.tup (k2.tup ha)), kit_ty (by decide +kernel), .ref b, rfl, .ref b, .ty "list", .type "tuple", .type "list", false, rfl, .ty "list", .base (.tup (k2.tup hb)), kit_ty (by decide +kernel), rfl, false, rfl, iteF ?_⟩
    refine ⟨.ref a, rfl, a, xs, rfl, .inr (SqT.of (k2.tup ha)), .ref b, rfl, b, ys, rfl, .inr (SqT.of (k2.tup hb)), rfl, !decide (V.int xs.length = V.int ys.length), rfl, ?_⟩
    rw [hl, decide_eq_true rfl]
    refine iteF ⟨.ref b, rfl, b, ys, rfl, .inr (SqT.of (k2.tup hb)), (ys.length : Int), rfl, by omega, by omega, fun D hD => ?_⟩
    have hD0 : H D = none := k2.live D hD
    refine lc_it walk_range (fun j H' => Kp H H' ∧ H' D = some (.lst [])) ⟨k2.add hD, upd_same⟩ (fun _ _ _ _ => trivial) (fun j x H3 H4 hj h y => ?_) (fun H' h => ?_)
    · obtain ⟨k3, hD3⟩ := h
      obtain ⟨rfl, hx⟩ := y
      obtain ⟨u, eu⟩ : ∃ u, xs[j]? = some u := ⟨_, List.getElem?_eq_getElem (by omega)⟩
      obtain ⟨v, ev⟩ : ∃ v, ys[j]? = some v := ⟨_, List.getElem?_eq_getElem (by omega)⟩
      have hx : x = .int ((j : Nat) : Int) := by rw [hx]; show V.int (0 + (j : Int)) = _; rw [Int.zero_add]
      subst hx
      refine ⟨rfl, .ref a, rfl, .int (j : Int), rfl, a, xs, (j : Int), u, rfl, rfl, SqT.of (k3.tup ha), atI_nat eu, .ref b, rfl, .int (j : Int), rfl, b, ys, (j : Int), v, rfl, rfl, SqT.of (k3.tup hb), atI_nat ev, ?_⟩
      refine ⟨u, v, rfl, hR _ _ _ _ k3 (hR1 j u v eu ev), fun H5 k5 => ⟨true, rfl, ?_⟩⟩
      exact iteF ⟨k3.trans k5, k5.lst hD3⟩
    · obtain ⟨k3, hD3⟩ := h
      refine ⟨by decide, fun e he => ?_⟩
      refine ⟨.list [], .list [], .lst (SqL.of ((Kp.new he).lst hD3)) .nil, .lst (SqL.of upd_same) .nil, by decide, by decide, ?_⟩
      exact q _ (k3.add he)
end
end BD
set_option maxRecDepth 100000
set_option maxHeartbeats 4000000
namespace BD
open PySem PySem.Spec PyProof.Rows L2 GxR BM
/-! ### the law's own web -/
theorem Kp.reput {H H1 : Hp} {r : Addr} {ys ys' : List V} (k : Kp (upd H r (.lst ys)) H1) : Kp (upd H r (.lst ys')) (upd H1 r (.lst ys')) := by
  refine ⟨fun b o e n => ?_, fun P t => ?_, fun b e => ?_⟩
  · by_cases hb : b = r
    · subst hb
      rw [upd_same] at e ⊢
      exact e
    · rw [upd_ne hb] at e ⊢
      exact k.at_ b o (by rw [upd_ne hb]; exact e) n
  · by_cases hb : P = r
    · subst hb
      obtain ⟨ps, e, _⟩ := t
      rw [upd_same] at e
      cases e
    · obtain ⟨ps, e, x⟩ := t
      rw [upd_ne hb] at e
      obtain ⟨ps', e', x'⟩ := k.tab P ⟨ps, by rw [upd_ne hb]; exact e, x⟩
      exact ⟨ps', by rw [upd_ne hb]; exact e', x'⟩
  · by_cases hb : b = r
    · subst hb
      rw [upd_same] at e
      cases e
    · rw [upd_ne hb] at e ⊢
      have := k.live b e
      rw [upd_ne hb] at this
      exact this
theorem upd_id {H : Hp} {r : Addr} {o : HO} (h : H r = some o) : upd H r o = H := by
  funext b
  by_cases hb : b = r
  · rw [hb, upd_same, h]
  · rw [upd_ne hb]
structure ArcsAt (H : Hp) (ts : List Addr) (arcs : Arcs) : Prop where
  len : ts.length = arcs.length
  arc : ∀ (i : Nat) (t : Addr) (r : Nat × Nat), ts[i]? = some t → arcs[i]? = some r → H t = some (.tup [vN r.1, vN r.2])
theorem ArcsAt.kp {H H' : Hp} {ts : List Addr} {arcs : Arcs} (w : ArcsAt H ts arcs) (k : Kp H H') : ArcsAt H' ts arcs := ⟨w.len, fun i t r e1 e2 => k.tup (w.arc i t r e1 e2)⟩
theorem ArcsAt.put {H : Hp} {ts : List Addr} {arcs : Arcs} {r : Addr} {ys ys' : List V} (w : ArcsAt H ts arcs) (h : H r = some (.lst ys)) : ArcsAt (upd H r (.lst ys')) ts arcs :=
  ⟨w.len, fun i t q e1 e2 => by
    have e := w.arc i t q e1 e2
    rw [upd_ne (ne_of e h (by intro z; cases z))]
    exact e⟩
theorem ArcsAt.snoc {H : Hp} {ts : List Addr} {arcs : Arcs} (w : ArcsAt H ts arcs) {t : Addr} {a : Nat × Nat} (h : H t = some (.tup [vN a.1, vN a.2])) : ArcsAt H (ts ++ [t]) (arcs ++ [a]) := by
  refine ⟨by simp [w.len], fun i t' r e1 e2 => ?_⟩
  by_cases hi : i < ts.length
  · rw [List.getElem?_append_left hi] at e1
    rw [List.getElem?_append_left (by rw [← w.len]; exact hi)] at e2
    exact w.arc i t' r e1 e2
  · rw [List.getElem?_append_right (by omega)] at e1
    rw [List.getElem?_append_right (by rw [← w.len]; omega), ← w.len] at e2
    generalize i - ts.length = j at e1 e2
    match j, e1, e2 with
    | 0, e1, e2 =>
      cases e1
      cases e2
      exact h
structure WebS (n : Nat) (arcs : Arcs) : Prop where
  src : ∀ a ∈ arcs, 1 ≤ a.1 ∧ a.1 ≤ n
  dst : ∀ a ∈ arcs, 1 ≤ a.2 ∧ a.2 ≤ n
  ne : ∀ a ∈ arcs, a.1 ≠ a.2
  nd : arcs.Nodup
theorem WebS.nil (n : Nat) : WebS n [] := ⟨fun _ h => (by cases h), fun _ h => (by cases h), fun _ h => (by cases h), List.nodup_nil⟩
theorem WebS.snoc {n : Nat} {arcs : Arcs} (w : WebS n arcs) {a : Nat × Nat} (h1 : 1 ≤ a.1 ∧ a.1 ≤ n) (h2 : 1 ≤ a.2 ∧ a.2 ≤ n) (h3 : a.1 ≠ a.2) (h4 : a ∉ arcs) : WebS n (arcs ++ [a]) := by
  refine ⟨fun b hb => ?_, fun b hb => ?_, fun b hb => ?_, ?_⟩
  · rcases List.mem_append.mp hb with hb | hb
    · exact w.src b hb
    · rw [List.mem_singleton.mp hb]; exact h1
  · rcases List.mem_append.mp hb with hb | hb
    · exact w.dst b hb
    · rw [List.mem_singleton.mp hb]; exact h2
  · rcases List.mem_append.mp hb with hb | hb
    · exact w.ne b hb
    · rw [List.mem_singleton.mp hb]; exact h3
  · rw [List.nodup_append]
    refine ⟨w.nd, by simp, fun x hx y hy e => h4 ?_⟩
    rw [← List.mem_singleton.mp hy, ← e]
    exact hx
theorem goal_ne {s k n : Nat} (h1 : 1 ≤ s) (h2 : s ≤ n) (h3 : k + 1 < n) : s ≠ 1 + (s + k) % n := by
  by_cases c : s + k < n
  · rw [Nat.mod_eq_of_lt c]
    omega
  · rw [Nat.mod_eq_sub_mod (by omega), Nat.mod_eq_of_lt (by omega)]
    omega
section
variable {P : Program} {w : World} {K : PySem.W.Frag} {mg : Str → Option Value} {base : Heap}
abbrev sWeb : Stmt := topS 29
theorem scWeb : FnScope ["_law_row", "_law_most", "_law_size", "_law_arcs", "_law_turn", "_law_source", "_law_goal"] ["_law_row", "_law_most"] (defScope sWeb) := ⟨rfl, rfl, rfl, by decide +kernel, rfl, by decide +kernel, by decide +kernel⟩
def spWeb (K : PySem.W.Frag) : Sp := fun vs H Q _ => ∃ (r sc : Addr) (ns : List Int) (ys : List V), vs = [.ref r, .int 6] ∧ H r = some (.lst ys) ∧ RowL sc ys ∧ Sc K H r sc ns ∧
  ∀ (ys' : List V) (H' : Hp) (n : Nat) (arcs : Arcs) (a b : Addr) (ts : List Addr), RowL sc ys' → Kp (upd H r (.lst ys')) H' → WebAt H' a b ts n arcs → Web n arcs → Q (.ref a) H'
theorem ok_web {f fT : Addr} {fd fdT : FuncData} (N : Names mg) (F : Fun K "_law_web" "_law_web" sWeb f fd) (FT : Fun K "_law_taken" "_law_taken" sTaken fT fdT) (bT : Binds K fdT ["_law_row", "_law_many"] []) (gT : mg "_law_taken" = some (.ref fT)) :
    FnOk P w K mg base CX0 2 f fd ["_law_row", "_law_most"] (spWeb K) := by
  have GT : FnOk P w K mg base CX0 1 fT fdT ["_law_row", "_law_many"] (spTaken K) := ok_taken N FT
  refine F.ok scWeb (fun vs H Q E h => ?_) (fun cdv A outer s H vs Q E hr h => ?_)
  · obtain ⟨r, sc, ns, ys, rfl, _⟩ := h
    rfl
  · obtain ⟨r, sc, ns, ys, rfl, hrow, hRL, hsc, q⟩ := h
    refine ⟨_, pss_cons (ps_par (i := 2) (j := 3) rfl scWeb.nd rfl rfl (by decide) rfl rfl
        (pa_cons (pe_op op_add pe_int (pe_call GT hr (by rfl) gT FT.kp bT .nil pass0 (pa_cons (pv 0) (pa_cons (pv 1) pa_nil)))) (pa_cons (pe_lst pa_nil) pa_nil)) (by rfl))
      (pss_cons (ps_for PassesOwn.never rfl (pi_range1 (by rfl) N.range (pa_cons (pe_call GT hr (by rfl) gT FT.kp bT .nil pass0 (pa_cons (pv 0) (pa_cons pe_int pa_nil))) pa_nil))
        (pg_name (i := 4) scWeb.nd rfl (.inl rfl))
        (pss_one (ps_if (pt_cmpR op_gt (pv 2) pe_int (nomark _))
          (pss_cons (ps_set (i := 5) scWeb.nd rfl (.inl rfl) (pe_op op_add pe_int (pe_call GT hr (by rfl) gT FT.kp bT .nil pass0 (pa_cons (pv 0) (pa_cons (pv 2) pa_nil)))))
          (pss_cons (ps_set (i := 6) scWeb.nd rfl (.inl rfl) (pe_op op_add pe_int (pe_op op_mod (pe_op op_add (pv 5) (pe_call GT hr (by rfl) gT FT.kp bT .nil pass0 (pa_cons (pv 0) (pa_cons (pe_op op_sub (pv 2) pe_int) pa_nil)))) (pv 2))))
          (pss_one (ps_set (i := 3) scWeb.nd rfl (.inl rfl) (pe_op op_cat (pv 3) (pe_op op_rep (pe_lst (pa_cons (pe_tup (pa_cons (pv 5) (pa_cons (pv 6) pa_nil))) pa_nil))
            (pe_callTy call_int1 (by rfl) N.int boot_int (pa_cons (pe_cmpR (op_notInD (hu65 hr)) (pe_tup (pa_cons (pv 5) (pa_cons (pv 6) pa_nil))) (pv 3) (by rfl)) pa_nil)))))))) pss_nil)))
      (pss_one (ps_ret (pe_tup (pa_cons (pv 2) (pa_cons (pe_callTy call_tuple_of (by rfl) N.tuple boot_tuple (pa_cons (pv 3) pa_nil)) pa_nil)))))), ?_⟩
    refine ⟨.ref r, rfl, .int 6, rfl, r, sc, 6, ns, ys, rfl, hrow, hRL, hsc, by decide, by decide, fun k0 ys1 h0 h0' hR1 => ?_⟩
    obtain ⟨q0, rfl⟩ : ∃ q0 : Nat, k0 = (q0 : Int) := ⟨k0.toNat, by omega⟩
    obtain ⟨n, en⟩ : ∃ n : Nat, 1 + q0 = n := ⟨_, rfl⟩
    have n1 : 1 ≤ n := by omega
    have n6 : n ≤ 6 := by omega
    refine ⟨1, (q0 : Int), rfl, rfl, Nat.zero_le _, fun l hl => ⟨vN n, .ref l, by rw [← en]; rfl, ?_⟩⟩
    have lr : l ≠ r := fun z => by rw [z, upd_same] at hl; cases hl
    have k1 : Kp (upd H r (.lst ys1)) (upd (upd H r (.lst ys1)) l (.lst [])) := Kp.new hl
    have hsc1 : Sc K (upd (upd H r (.lst ys1)) l (.lst [])) r sc ns := hsc.put.kp k1
    refine ⟨.ref r, rfl, r, sc, 11, ns, ys1, rfl, by rw [upd_ne lr.symm]; exact upd_same, hR1, hsc1, by decide, by decide, fun c ys2 hc0 hc hR2 => ⟨c, rfl, by omega, by omega, ?_⟩⟩
    refine for_it walk_range (fun j σ H3 => ∃ (y4 y5 y6 : Option V) (l : Addr) (ts : List Addr) (arcs : Arcs) (ys3 : List V), σ = [some (.ref r), some (.int 6), some (vN n), some (.ref l), y4, y5, y6] ∧ Kp (upd H r (.lst ys3)) H3 ∧ RowL sc ys3 ∧ l ≠ r ∧ H3 l = some (.lst (ts.map V.ref)) ∧ ArcsAt H3 ts arcs ∧ WebS n arcs ∧ arcs.length ≤ j)
      ⟨none, none, none, l, [], [], ys2, rfl, k1.reput, hR2, lr, by rw [upd_ne lr]; exact upd_same, ⟨rfl, fun i t r e => by cases e⟩, .nil n, Nat.le_refl _⟩ (fun _ _ _ _ _ => trivial) (fun j x σ3 H3 H4 hj h y => ?_) (fun σ3 H3 h => ?_)
    · obtain ⟨y4, y5, y6, l, ts, arcs, ys3, rfl, k3, hR3, lr, hl3, hA, hW, hlen⟩ := h
      obtain ⟨rfl, hx⟩ := y
      have hc10 : arcs.length ≤ 10 := by omega
      have hr3 : H4 r = some (.lst ys3) := k3.lst upd_same
      have hsc3 : Sc K H4 r sc ns := hsc.put.kp k3
      refine ⟨vN n, rfl, n, 1, rfl, rfl, _, rfl, ?_⟩
      by_cases hn : (1 : Int) < (n : Int)
      · rw [decide_eq_true hn]
        refine iteT ⟨.ref r, rfl, vN n, rfl, r, sc, n, ns, ys3, rfl, hr3, hR3, hsc3, by omega, by omega, fun k4 ys4 h4 h4' hR4 => ⟨1, k4, rfl, rfl, ?_⟩⟩
        obtain ⟨q4, rfl⟩ : ∃ q4 : Nat, k4 = (q4 : Int) := ⟨k4.toNat, by omega⟩
        have lrr : l ≠ r := lr
        have e4 : (upd H4 r (.lst ys4)) r = some (.lst ys4) := upd_same
        refine ⟨vN (1 + q4), rfl, .ref r, rfl, vN n, rfl, n, 1, rfl, rfl, r, sc, (n : Int) - 1, ns, ys4, rfl, e4, hR4, hsc3.put, by omega, by omega, fun k5 ys5 h5 h5' hR5 => ?_⟩
        rw [upd_upd]
        obtain ⟨q5, rfl⟩ : ∃ q5 : Nat, k5 = (q5 : Int) := ⟨k5.toNat, by omega⟩
        refine ⟨1 + q4, q5, rfl, rfl, vN n, rfl, (1 + q4 : Int) + q5, n, rfl, rfl, by show (0 : Int) < n; omega, 1, _, rfl, rfl, ?_⟩
        have k6 : Kp (upd H r (.lst ys5)) (upd H4 r (.lst ys5)) := k3.reput
        have hA6 : ArcsAt (upd H4 r (.lst ys5)) ts arcs := hA.put hr3
        have hl6 : (upd H4 r (.lst ys5)) l = some (.lst (ts.map V.ref)) := by rw [upd_ne lr]; exact hl3
        obtain ⟨ar, ear⟩ : ∃ ar : Nat × Nat, ar = (1 + q4, 1 + (1 + q4 + q5) % n) := ⟨_, rfl⟩
        have ar1 : 1 ≤ ar.1 ∧ ar.1 ≤ n := by rw [ear]; show 1 ≤ 1 + q4 ∧ 1 + q4 ≤ n; omega
        have ar2 : 1 ≤ ar.2 ∧ ar.2 ≤ n := by
          rw [ear]
          show 1 ≤ 1 + (1 + q4 + q5) % n ∧ 1 + (1 + q4 + q5) % n ≤ n
          have := Nat.mod_lt (1 + q4 + q5) (y := n) (by omega)
          omega
        have ar3 : ar.1 ≠ ar.2 := by rw [ear]; exact goal_ne (by omega) (by rw [ear] at ar1; exact ar1.2) (by omega)
        generalize upd H4 r (.lst ys5) = H6 at k6 hA6 hl6
        refine ⟨.ref l, rfl, vN ar.1, by rw [ear]; rfl, vN ar.2, by rw [ear]; rfl, by show 2 ≤ sizeLine; decide, fun t1 ht1 => ⟨by show 1 ≤ sizeLine; decide, fun l1 hl1 => ?_⟩⟩
        have k7 := (Kp.new (o := .tup [vN ar.1, vN ar.2]) ht1).add (o := .lst [.ref t1]) hl1
        have hl7 := k7.lst hl6
        refine ⟨vN ar.1, by rw [ear]; rfl, vN ar.2, by rw [ear]; rfl, by show 2 ≤ sizeLine; decide, fun t2 ht2 => ?_⟩
        have k8 := k7.add (o := .tup [vN ar.1, vN ar.2]) ht2
        refine ⟨.ref l, rfl, dP ar, arcs.map dP, dp_P upd_same, .lst (SqL.of (k8.lst hl6)) (dpAll_refs ts arcs hA6.len fun i t a e1 e2 => dp_P ((hA6.kp k8).arc i t a e1 e2)), shaped_P ar, shaped_list lay_P depth_P arcs, .inr ⟨_, rfl, ?_⟩⟩
        rw [any_P]
        have ht1' : (upd (upd H6 t1 (.tup [vN ar.1, vN ar.2])) l1 (.lst [.ref t1])) t1 = some (.tup [vN ar.1, vN ar.2]) := by
          rw [upd_ne (ne_of_none upd_same hl1)]
          exact upd_same
        have hl1' : (upd (upd (upd H6 t1 (.tup [vN ar.1, vN ar.2])) l1 (.lst [.ref t1])) t2 (.tup [vN ar.1, vN ar.2])) l1 = some (.lst [.ref t1]) := (Kp.new ht2).lst upd_same
        have ht1'' : (upd (upd (upd H6 t1 (.tup [vN ar.1, vN ar.2])) l1 (.lst [.ref t1])) t2 (.tup [vN ar.1, vN ar.2])) t1 = some (.tup [vN ar.1, vN ar.2]) := (Kp.new ht2).tup ht1'
        have hl8 := k8.lst hl6
        generalize upd (upd (upd H6 t1 (.tup [vN ar.1, vN ar.2])) l1 (.lst [.ref t1])) t2 (.tup [vN ar.1, vN ar.2]) = H8 at k8 hl1' ht1'' hl8
        have kk := k6.trans k8
        by_cases c : ar ∈ arcs
        · rw [decide_eq_true c]
          refine ⟨l1, 0, [.ref t1], rfl, rfl, hl1', by decide, by decide, by show 0 ≤ sizeLine; decide, fun p hp => ?_⟩
          have k9 := k8.add (o := .lst []) hp
          refine ⟨l, p, ts.map V.ref, [], rfl, rfl, k9.lst hl6, upd_same, ?_, fun p2 hp2 => ?_⟩
          · rw [List.length_map, hA6.len]
            exact small64' (by show arcs.length + _ ≤ 1000; first | (show arcs.length + 0 ≤ 1000; omega) | (show arcs.length + 1 ≤ 1000; omega))
          · have k10 := k9.add (o := .lst (ts.map V.ref ++ [])) hp2
            refine ⟨_, _, _, p2, ts, arcs, ys5, rfl, k6.trans k10, hR5, ?_, ?_, hA6.kp k10, hW, by omega⟩
            · exact (ne_of_none ((k6.trans k9).lst upd_same) hp2).symm
            · rw [List.append_nil]; exact upd_same
        · rw [decide_eq_false c]
          refine ⟨l1, 1, [.ref t1], rfl, rfl, hl1', by decide, by decide, by show 1 ≤ sizeLine; decide, fun p hp => ?_⟩
          have k9 := k8.add (o := .lst [.ref t1]) hp
          refine ⟨l, p, ts.map V.ref, [.ref t1], rfl, rfl, k9.lst hl6, upd_same, ?_, fun p2 hp2 => ?_⟩
          · rw [List.length_map, hA6.len]
            exact small64' (by show arcs.length + _ ≤ 1000; first | (show arcs.length + 0 ≤ 1000; omega) | (show arcs.length + 1 ≤ 1000; omega))
          · have k10 := k9.add (o := .lst (ts.map V.ref ++ [.ref t1])) hp2
            refine ⟨_, _, _, p2, ts ++ [t1], arcs ++ [ar], ys5, rfl, k6.trans k10, hR5, ?_, ?_, (hA6.kp k10).snoc ?_, hW.snoc ar1 ar2 ar3 c, ?_⟩
            · exact (ne_of_none ((k6.trans k9).lst upd_same) hp2).symm
            · rw [List.map_append]; exact upd_same
            · exact ((Kp.new hp).add hp2).tup ht1''
            · rw [List.length_append]
              show arcs.length + 1 ≤ j + 1
              omega
      · rw [decide_eq_false hn]
        exact iteF ⟨_, y5, y6, l, ts, arcs, ys3, rfl, k3, hR3, lr, hl3, hA, hW, by omega⟩
    · obtain ⟨y4, y5, y6, l, ts, arcs, ys3, rfl, k3, hR3, lr, hl3, hA, hW, hlen⟩ := h
      refine ⟨vN n, rfl, .ref l, rfl, l, _, rfl, .inl ⟨SqL.of hl3, fun b hb => ⟨by show 2 ≤ sizeLine; decide, fun a ha => ?_⟩⟩⟩
      have k4 := (Kp.new (o := .tup (ts.map V.ref)) hb).add (o := .tup [vN n, .ref b]) ha
      refine q ys3 _ n arcs a b ts hR3 (k3.trans k4) ⟨upd_same, ?_, hA.len, fun i t r e1 e2 => (hA.kp k4).arc i t r e1 e2⟩ ⟨n1, n6, by omega, hW.src, hW.dst, hW.ne, hW.nd⟩
      rw [upd_ne (ne_of_none upd_same ha)]
      exact upd_same
end
end BD
set_option maxRecDepth 100000
set_option maxHeartbeats 4000000
namespace BD
open PySem PySem.Spec PyProof.Rows L2 GxR BM
theorem cut_from (xs : List V) (i : Nat) (h : i ≤ xs.length) : cutV xs (some (i : Int)) none = xs.drop i := by
  unfold cutV
  rw [HT.sIx_nat, HT.sIx_none, Nat.min_eq_left h]
  rw [List.take_of_length_le (by rw [List.length_drop]; exact Nat.le_refl _)]
theorem not_whole2 (xs : List V) (i : Nat) (h : 1 ≤ i) (h2 : i ≤ xs.length) : ¬ (HT.sIx xs.length 0 (some (i : Int)) = 0 ∧ HT.sIx xs.length xs.length none = xs.length) := by
  rintro ⟨e, _⟩
  rw [HT.sIx_nat, Nat.min_eq_left h2] at e
  omega
theorem catA_any {K : PySem.W.Frag} {H : Hp} {a b : Addr} {xs ys : List V} {Q : VK} (ha : H a = some (.tup xs)) (hb : H b = some (.tup ys)) (hz : xs.length + ys.length ≤ sizeLine)
    (q : ∀ p H', Kp H H' → H' p = some (.tup (xs ++ ys)) → Q (.ref p) H') : rCatA K (.ref a) (.ref b) H Q := by
  refine ⟨a, b, xs, ys, rfl, rfl, SqT.of ha, SqT.of hb, hz, fun e => ?_, fun _ e => ?_, fun _ _ p hp => q p _ (Kp.new hp) upd_same⟩
  · refine q b H (Kp.refl H) ?_
    rw [e]
    exact hb
  · refine q a H (Kp.refl H) ?_
    rw [e, List.append_nil]
    exact ha
theorem vNs_get {l : List Nat} {i : Nat} (h : i < l.length) : (vNs l)[i]? = some (vN (l.getD i 0)) := by
  rw [List.getElem?_map, List.getElem?_eq_getElem h]
  show some (vN l[i]) = _
  congr 2
  rw [List.getD_eq_getElem?_getD, List.getElem?_eq_getElem h]
  rfl
section
variable {P : Program} {w : World} {K : PySem.W.Frag} {mg : Str → Option Value} {base : Heap}
abbrev sTakenOver : Stmt := topS 31
theorem scTakenOver : FnScope ["_law_web_here", "_law_some", "_law_index", "_law_source", "_law_goal"] ["_law_web_here", "_law_some", "_law_index"] (defScope sTakenOver) := ⟨rfl, rfl, rfl, by decide +kernel, rfl, by decide +kernel, by decide +kernel⟩
def spTakenOver : Sp := fun vs H Q _ => ∃ (n k : Nat) (arcs : Arcs) (l : List Nat) (a b so : Addr) (ts : List Addr), vs = [.ref a, .ref so, vN k] ∧ WebAt H a b ts n arcs ∧ Web n arcs ∧ H so = some (.tup (vNs l)) ∧ l.length = n ∧ k < arcs.length ∧
  ∀ p H', Kp H H' → H' p = some (.tup (vNs (over arcs l k))) → Q (.ref p) H'
theorem ok_takenOver {f : Addr} {fd : FuncData} (N : Names mg) (F : Fun K "_law_taken_over" "_law_taken_over" sTakenOver f fd) : FnOk P w K mg base CX0 1 f fd ["_law_web_here", "_law_some", "_law_index"] spTakenOver := by
  refine F.ok scTakenOver (fun vs H Q E h => ?_) (fun cdv A outer s H vs Q E hr h => ?_)
  · obtain ⟨n, k, arcs, l, a, b, so, ts, rfl, _⟩ := h
    rfl
  · obtain ⟨n, k, arcs, l, a, b, so, ts, rfl, W, hw, hso, hl, hk, q⟩ := h
    refine ⟨_, pss_cons (ps_asg (pe_ix ix_tup (pe_ix ix_tup (pv 0) pe_int (fun _ _ => rfl)) (pv 2) (fun _ _ => rfl)) (pg_tup rfl (pgs_cons (pg_name (i := 3) scTakenOver.nd rfl (.inl rfl)) (pgs_cons (pg_name (i := 4) scTakenOver.nd rfl (.inl rfl)) pgs_nil))))
      (pss_one (ps_ret (pe_op op_catA (pe_op op_catA (pe_slice sl_tup (pv 1) po_none (po_some (pe_op op_sub (pv 4) pe_int))) (pe_tup (pa_cons (pe_ix ix_tup (pv 1) (pe_op op_sub (pv 3) pe_int) (fun _ _ => rfl)) pa_nil)))
        (pe_slice sl_tup (pv 1) (po_some (pv 4)) po_none)))), ?_⟩
    have ek : arcs[k]? = some arcs[k] := List.getElem?_eq_getElem hk
    have hkt : k < ts.length := by rw [W.len]; exact hk
    have et : ts[k]? = some ts[k] := List.getElem?_eq_getElem hkt
    have ht := W.arc k _ _ et ek
    have hs := hw.src _ (List.getElem_mem hk)
    have hd := hw.dst _ (List.getElem_mem hk)
    have hg : goalAt arcs k = arcs[k].2 := goalAt_of ek
    have hsr : srcAt arcs k = arcs[k].1 := srcAt_of ek
    refine ⟨.ref a, rfl, a, _, 1, .ref b, rfl, rfl, SqT.of W.top, atI_nat (j := 1) rfl, vN k, rfl, b, _, k, .ref ts[k], rfl, rfl, SqT.of W.row, atI_nat (by rw [List.getElem?_map, et]; rfl), ?_⟩
    generalize arcs[k] = ar at ht hs hd hg hsr
    generalize ts[k] = t at ht
    refine ⟨t, _, rfl, SqT.of ht, rfl, vN ar.1, [vN ar.2], rfl, vN ar.2, [], rfl, rfl, ?_⟩
    have h6 := hw.n6
    have eg : (ar.2 : Int) - 1 = ((ar.2 - 1 : Nat) : Int) := by omega
    have es : (ar.1 : Int) - 1 = ((ar.1 - 1 : Nat) : Int) := by omega
    refine ⟨.ref so, rfl, vN ar.2, rfl, ar.2, 1, rfl, rfl, ((ar.2 - 1 : Nat) : Int), congrArg V.int eg, so, _, rfl, SqT.of hso, not_whole _ _ (by rw [List.length_map]; omega), fun p1 hp1 => ?_⟩
    rw [cut_to _ _ (by rw [List.length_map]; omega)]
    have k1 := Kp.new (o := .tup ((vNs l).take (ar.2 - 1))) hp1
    refine ⟨.ref so, rfl, vN ar.1, rfl, ar.1, 1, rfl, rfl, so, _, ((ar.1 - 1 : Nat) : Int), _, rfl, congrArg V.int es, SqT.of (k1.tup hso), atI_nat (vNs_get (by omega)), by show 1 ≤ sizeLine; decide, fun p2 hp2 => ?_⟩
    have k2 := k1.add (o := .tup [vN (l.getD (ar.1 - 1) 0)]) hp2
    refine catA_any ((Kp.new hp2).tup upd_same) upd_same ?_ (fun p3 H3 k3 h3 => ?_)
    · have : ((vNs l).take (ar.2 - 1)).length ≤ l.length := by rw [List.length_take, List.length_map]; omega
      show _ + 1 ≤ sizeLine
      exact small64' (by omega)
    have k4 := k2.trans k3
    refine ⟨.ref so, rfl, vN ar.2, rfl, ar.2, rfl, so, _, rfl, SqT.of (k4.tup hso), not_whole2 _ _ hd.1 (by rw [List.length_map]; omega), fun p4 hp4 => ?_⟩
    rw [cut_from _ _ (by rw [List.length_map]; omega)]
    refine catA_any ((Kp.new hp4).tup h3) upd_same ?_ (fun p5 H5 k5 h5 => ?_)
    · rw [List.length_append, List.length_take, List.length_drop, List.length_map]
      show _ + 1 + _ ≤ sizeLine
      exact small64' (by omega)
    refine q p5 H5 ((k4.add hp4).trans k5) ?_
    rw [h5]
    unfold over vNs
    rw [hg, hsr, List.map_append, List.map_append, List.map_take, List.map_drop]
    rfl
/-! ### the law's own play -/
abbrev sDone : Stmt := topS 32
theorem scDone : FnScope ["_law_web_here", "_law_some", "_law_log_here", "_law_index"] ["_law_web_here", "_law_some", "_law_log_here"] (defScope sDone) := ⟨rfl, rfl, rfl, by decide +kernel, rfl, by decide +kernel, by decide +kernel⟩
def spDone : Sp := fun vs H Q _ => ∃ (n : Nat) (arcs : Arcs) (l ks : List Nat) (a b so lg : Addr) (ts : List Addr), vs = [.ref a, .ref so, .ref lg] ∧ WebAt H a b ts n arcs ∧ Web n arcs ∧ H so = some (.tup (vNs l)) ∧ l.length = n ∧ H lg = some (.tup (vNs ks)) ∧ (∀ k ∈ ks, k < arcs.length) ∧
  ∀ p H', Kp H H' → H' p = some (.tup (vNs (overs arcs ks l))) → Q (.ref p) H'
theorem goalAt_in {n : Nat} {arcs : Arcs} (hw : Web n arcs) {k : Nat} (hk : k < arcs.length) : 1 ≤ goalAt arcs k ∧ goalAt arcs k ≤ n := by
  rw [goalAt_of (List.getElem?_eq_getElem hk)]
  exact hw.dst _ (List.getElem_mem hk)
theorem overs_len {n : Nat} {arcs : Arcs} (hw : Web n arcs) : ∀ (ks l : List Nat), (∀ k ∈ ks, k < arcs.length) → l.length = n → (overs arcs ks l).length = n
  | [], l, _, h => h
  | k :: ks, l, hk, h => by
    have g := goalAt_in hw (hk k (by simp))
    exact overs_len hw ks _ (fun x hx => hk x (by simp [hx])) (over_len h g.1 g.2)
theorem ok_done {f fO : Addr} {fd fdO : FuncData} (N : Names mg) (F : Fun K "_law_done" "_law_done" sDone f fd) (FO : Fun K "_law_taken_over" "_law_taken_over" sTakenOver fO fdO) (bO : Binds K fdO ["_law_web_here", "_law_some", "_law_index"] []) (gO : mg "_law_taken_over" = some (.ref fO)) :
    FnOk P w K mg base CX0 2 f fd ["_law_web_here", "_law_some", "_law_log_here"] spDone := by
  have GO : FnOk P w K mg base CX0 1 fO fdO ["_law_web_here", "_law_some", "_law_index"] spTakenOver := ok_takenOver N FO
  refine F.ok scDone (fun vs H Q E h => ?_) (fun cdv A outer s H vs Q E hr h => ?_)
  · obtain ⟨n, arcs, l, ks, a, b, so, lg, ts, rfl, _⟩ := h
    rfl
  · obtain ⟨n, arcs, l, ks, a, b, so, lg, ts, rfl, W, hw, hso, hl, hlg, hks, q⟩ := h
    refine ⟨_, pss_cons (ps_for PassesOwn.never rfl (pi_tup (pv 2)) (pg_name (i := 3) scDone.nd rfl (.inl rfl))
        (pss_one (ps_set (i := 1) scDone.nd rfl (.inl rfl) (pe_call GO hr (by rfl) gO FO.kp bO .nil pass0 (pa_cons (pv 0) (pa_cons (pv 1) (pa_cons (pv 3) pa_nil)))))))
      (pss_one (ps_ret (pv 1))), ?_⟩
    refine ⟨.ref lg, rfl, lg, rfl, ⟨_, SqT.of hlg⟩, ?_⟩
    refine for_it (walk_tup (xs := vNs ks)) (fun i σ3 H3 => ∃ (y3 : Option V) (s3 : Addr), σ3 = [some (.ref a), some (.ref s3), some (.ref lg), y3] ∧ Kp H H3 ∧ H3 s3 = some (.tup (vNs (overs arcs (ks.take i) l))))
      ⟨none, so, rfl, Kp.refl H, hso⟩ (fun i σ3 H3 _ h => ?_) (fun i x σ3 H3 H4 hi h y => ?_) (fun σ3 H3 h => ?_)
    · obtain ⟨_, _, _, k, _⟩ := h
      exact SqT.of (k.tup hlg)
    · obtain ⟨y3, s3, rfl, k, hs3⟩ := h
      obtain ⟨rfl, hx⟩ := y
      obtain ⟨z, ez, rfl, hm⟩ := vNs_at hx
      refine ⟨.ref a, rfl, .ref s3, rfl, vN z, rfl, n, z, arcs, _, a, b, s3, ts, rfl, W.kp k, hw, hs3, overs_len hw _ _ (fun x hx => hks x (List.mem_of_mem_take hx)) hl, hks z hm, fun p H5 k5 h5 => ?_⟩
      refine ⟨_, p, rfl, k.trans k5, ?_⟩
      rw [take_snoc ez, overs_snoc]
      exact h5
    · obtain ⟨y3, s3, rfl, k, hs3⟩ := h
      rw [List.length_map, List.take_length] at hs3
      exact ⟨.ref s3, rfl, q s3 H3 k hs3⟩
/-! ### the law's own people -/
abbrev sLPeople : Stmt := topS 33
theorem scLPeople : FnScope ["_law_web_here", "_law_k"] ["_law_web_here"] (defScope sLPeople) := ⟨rfl, rfl, rfl, by decide +kernel, rfl, by decide +kernel, by decide +kernel⟩
def spLPeople : Sp := fun vs H Q _ => ∃ (n : Nat) (arcs : Arcs) (a b : Addr) (ts : List Addr), vs = [.ref a] ∧ WebAt H a b ts n arcs ∧ n ≤ 6 ∧ ∀ p H', Kp H H' → H p = none → H' p = some (.tup (vNs (people n))) → Q (.ref p) H'
theorem ok_lpeople {f : Addr} {fd : FuncData} (N : Names mg) (F : Fun K "_law_people" "_law_people" sLPeople f fd) : FnOk P w K mg base CX0 1 f fd ["_law_web_here"] spLPeople := by
  refine F.ok scLPeople (fun vs H Q E h => ?_) (fun cdv A outer s H vs Q E hr h => ?_)
  · obtain ⟨n, arcs, a, b, ts, rfl, _⟩ := h
    rfl
  · obtain ⟨n, arcs, a, b, ts, rfl, W, h6, q⟩ := h
    refine ⟨_, pss_one (ps_ret (pe_callTy call_tuple_of (by rfl) N.tuple boot_tuple (pa_cons (pe_lc (own := [("_law_k", 1)]) rfl scLPeople.nd (pi_range1 (by rfl) N.range (pa_cons (pe_ix ix_tup (pv 0) pe_int (fun _ _ => rfl)) pa_nil)) (blkOk_by (own := [("_law_k", 1)]) (N := ["_law_web_here", "_law_k"]) (sc := defScope sLPeople) (by decide +kernel))
      (fun _ _ _ _ _ => pg_name (i := 1) scLPeople.nd rfl (.inl rfl)) (fun _ _ _ _ _ => pts_nil) (fun _ _ _ _ _ => pe_op op_add (pv 1) pe_int)) pa_nil))), ?_⟩
    refine ⟨.ref a, rfl, a, _, 0, vN n, rfl, rfl, SqT.of W.top, atI_nat (j := 0) rfl, (n : Int), rfl, by omega, by omega, fun D hD => ?_⟩
    refine lc_it walk_range (fun j H' => Kp H H' ∧ H' D = some (.lst (vNs ((people n).take j)))) ⟨Kp.new hD, upd_same⟩ (fun _ _ _ _ => trivial) (fun j x H3 H4 hj h y => ?_) (fun H' h => ?_)
    · obtain ⟨k3, hD3⟩ := h
      obtain ⟨rfl, hx⟩ := y
      have hx : x = vN j := by rw [hx]; show V.int (0 + (j : Int)) = _; rw [Int.zero_add]
      subst hx
      have ep : (people n)[j]? = some (j + 1) := people_at (by omega)
      refine ⟨rfl, ?_⟩
      dsimp only [tYes]
      refine iteT ⟨vN j, rfl, (j : Int), 1, rfl, rfl, _, hD3, ?_, k3.put hD, ?_⟩
      · rw [List.length_map, List.length_take]
        exact small1000 (by omega)
      · rw [upd_same, take_snoc ep]
        show _ = some (HO.lst (vNs _))
        rw [← vNs_snoc]
        rfl
    · obtain ⟨k3, hD3⟩ := h
      rw [show (((n : Nat) : Int)).toNat = n from rfl, List.take_of_length_le (by rw [people_len]; exact Nat.le_refl _)] at hD3
      refine ⟨D, _, rfl, .inl ⟨SqL.of hD3, fun l hl => ?_⟩⟩
      exact q l _ (k3.add hl) (k3.live l hl) upd_same
end
end BD
set_option maxRecDepth 100000
set_option maxHeartbeats 4000000
namespace BD
open PySem PySem.Spec PyProof.Rows L2 GxR BM
section
variable {P : Program} {w : World} {K : PySem.W.Frag} {mg : Str → Option Value} {base : Heap}
/-! ### the law's own hearing -/
abbrev sHeard : Stmt := topS 34
theorem scHeard : FnScope ["_law_web_here", "_law_person", "_law_found", "_law_turn", "_law_source", "_law_goal"] ["_law_web_here", "_law_person"] (defScope sHeard) := ⟨rfl, rfl, rfl, by decide +kernel, rfl, by decide +kernel, by decide +kernel⟩
def spHeard : Sp := fun vs H Q _ => ∃ (n p : Nat) (arcs : Arcs) (a b : Addr) (ts : List Addr), vs = [.ref a, vN p] ∧ WebAt H a b ts n arcs ∧ Web n arcs ∧ p ∈ people n ∧
  ∀ d H' xs, Kp H H' → H d = none → H' d = some (.lst xs) → xs.length = (heard n arcs p).length → Q (.ref d) H'
theorem ok_heard {f : Addr} {fd : FuncData} (N : Names mg) (F : Fun K "_law_heard" "_law_heard" sHeard f fd) : FnOk P w K mg base CX0 1 f fd ["_law_web_here", "_law_person"] spHeard := by
  refine F.ok scHeard (fun vs H Q E h => ?_) (fun cdv A outer s H vs Q E hr h => ?_)
  · obtain ⟨n, p, arcs, a, b, ts, rfl, _⟩ := h
    rfl
  · obtain ⟨n, p, arcs, a, b, ts, rfl, W, hw, hp, q⟩ := h
    refine ⟨_, pss_cons (ps_set (i := 2) scHeard.nd rfl (.inl rfl) (pe_lst (pa_cons (pv 1) pa_nil)))
      (pss_cons (ps_for PassesOwn.never rfl (pi_range1 (by rfl) N.range (pa_cons (pe_ix ix_tup (pv 0) pe_int (fun _ _ => rfl)) pa_nil)) (pg_name (i := 3) scHeard.nd rfl (.inl rfl))
        (pss_one (ps_for PassesOwn.never rfl (pi_tup (pe_ix ix_tup (pv 0) pe_int (fun _ _ => rfl)))
          (pg_tup rfl (pgs_cons (pg_name (i := 4) scHeard.nd rfl (.inl rfl)) (pgs_cons (pg_name (i := 5) scHeard.nd rfl (.inl rfl)) pgs_nil)))
          (pss_one (ps_if (PW.pt (pw_and (pt_cmpR op_in_seq (pv 4) (pv 2) (by rfl)) (pw_and1 (pt_cmpR op_notIn_seq (pv 5) (pv 2) (by rfl)))))
            (pss_one (ps_expr (pe_bm PySem.F.plainAttrs_list PySem.F.slot_list_append PySem.F.type_list_append mt_append (pv 2) (pa_cons (pv 5) pa_nil)))) pss_nil)))))
      (pss_one (ps_ret (pe_callB cr_sorted (by rfl) N.sorted boot_sorted (pa_cons (pv 2) pa_nil))))), ?_⟩
    refine ⟨vN p, rfl, by show 1 ≤ sizeLine; decide, fun fl hfl => ?_⟩
    have k0 := Kp.new (o := .lst [vN p]) hfl
    have h6 := hw.n6
    refine ⟨.ref a, rfl, a, _, 0, vN n, rfl, rfl, SqT.of (k0.tup W.top), atI_nat (j := 0) rfl, (n : Int), rfl, by omega, by omega, ?_⟩
    refine for_it walk_range (fun t σ H3 => ∃ (y3 y4 y5 : Option V), σ = [some (.ref a), some (vN p), some (.ref fl), y3, y4, y5] ∧ Kp H H3 ∧ H3 fl = some (.lst (vNs (lrounds arcs p t))))
      ⟨none, none, none, rfl, k0, upd_same⟩ (fun _ _ _ _ _ => trivial) (fun t x σ3 H3 H4 ht h y => ?_) (fun σ3 H3 h => ?_)
    · obtain ⟨y3, y4, y5, rfl, k3, hf3⟩ := h
      obtain ⟨rfl, hx⟩ := y
      have W3 := W.kp k3
      refine ⟨.ref a, rfl, a, _, 1, _, rfl, rfl, SqT.of W3.top, atI_nat (j := 1) rfl, b, rfl, ⟨_, SqT.of W3.row⟩, ?_⟩
      refine for_it (walk_tup (xs := ts.map V.ref)) (fun i σ5 H5 => ∃ (y4 y5 : Option V), σ5 = [some (.ref a), some (vN p), some (.ref fl), some x, y4, y5] ∧ Kp H H5 ∧ H5 fl = some (.lst (vNs (lfold (lrounds arcs p t) (arcs.take i)))))
        ⟨y4, y5, rfl, k3, hf3⟩ (fun i σ5 H5 _ h => ?_) (fun i x5 σ5 H5 H6 hi h y => ?_) (fun σ5 H5 h => ?_)
      · obtain ⟨_, _, _, k4, _⟩ := h
        exact SqT.of (k4.tup W.row)
      · obtain ⟨z4, z5, rfl, k5, hf5⟩ := h
        obtain ⟨rfl, hx5⟩ := y
        obtain ⟨tt, ar, rfl, et, er, _⟩ := W.at_ hx5
        have htt := (W.kp k5).arc i tt ar et er
        refine ⟨tt, _, rfl, SqT.of htt, rfl, vN ar.1, [vN ar.2], rfl, vN ar.2, [], rfl, rfl, ?_⟩
        have L := (LInv.rounds hw hp t).fold hw (arcs.take i) (fun _ hm => List.mem_of_mem_take hm)
        rw [take_snoc er, lfold_snoc]
        generalize lfold (lrounds arcs p t) (arcs.take i) = st at hf5 L
        have done : ¬ (ar.1 ∈ st ∧ ar.2 ∉ st) → ∃ (y4 y5 : Option V), ([some (.ref a), some (vN p), some (.ref fl), some x, some (vN ar.1), some (vN ar.2)] : L2.St) = [some (.ref a), some (vN p), some (.ref fl), some x, y4, y5] ∧ Kp H H6 ∧ H6 fl = some (.lst (vNs (lstep st ar))) := fun c => by
          rw [lstep_no c]
          exact ⟨_, _, rfl, k5, hf5⟩
        refine ⟨vN ar.1, rfl, .ref fl, rfl, fl, _, rfl, .inl (SqL.of hf5), rfl, flat_ns _, _, rfl, ?_⟩
        show if (if false = true then !inV (vN ar.1) (vNs st) else inV (vN ar.1) (vNs st)) = true then _ else _
        rw [if_neg Bool.false_ne_true, in_ns]
        by_cases c1 : ar.1 ∈ st
        · rw [decide_eq_true c1]
          refine iteT ⟨vN ar.2, rfl, .ref fl, rfl, fl, _, rfl, .inl (SqL.of hf5), rfl, flat_ns _, _, rfl, ?_⟩
          show if (if true = true then !inV (vN ar.2) (vNs st) else inV (vN ar.2) (vNs st)) = true then _ else _
          rw [if_pos (show true = true from rfl), in_ns]
          by_cases c2 : ar.2 ∈ st
          · rw [decide_eq_true c2]
            exact iteF (done fun c => c.2 c2)
          · rw [decide_eq_false c2]
            refine iteT ⟨.ref fl, rfl, .inl ⟨rfl, _, .inl (.inl hf5)⟩, vN ar.2, rfl, fl, _, _, rfl, rfl, hf5, ?_, ?_⟩
            · rw [List.length_map]
              have := len_le L.nd L.ppl
              exact small1000 (by omega)
            · rw [lstep_yes c1 c2, vNs_snoc]
              exact ⟨_, _, rfl, k5.put hfl, upd_same⟩
        · rw [decide_eq_false c1]
          exact iteF (done fun c => c1 c.1)
      · obtain ⟨z4, z5, rfl, k5, hf5⟩ := h
        rw [List.length_map, W.len, List.take_length] at hf5
        exact ⟨_, z4, z5, rfl, k5, hf5⟩
    · obtain ⟨y3, y4, y5, rfl, k3, hf3⟩ := h
      have hf3 : H3 fl = some (.lst (vNs (lrounds arcs p n))) := hf3
      have L := LInv.rounds hw hp n
      have ll := len_le L.nd L.ppl
      refine ⟨.ref fl, rfl, fl, (lrounds arcs p n).map (fun x : Nat => (x : Int)), rfl, SqL.of (by rw [List.map_map]; exact hf3), by rw [List.length_map]; omega, fun ns' d hpm _ hd => ?_⟩
      refine q d _ (ns'.map V.int) (k3.add hd) (k3.live d hd) upd_same ?_
      rw [List.length_map, hpm.length_eq, List.length_map]
      exact (lrounds_perm hw hp).length_eq
end
end BD
set_option maxRecDepth 100000
set_option maxHeartbeats 4000000
namespace BD
open PySem PySem.Spec PyProof.Rows L2 GxR BM
/-! ### the law: its end, the least closed sets -/
abbrev sLaw : Stmt := topS 35
abbrev NL : List Str := ["_law_script", "_law_row", "_law_web_here", "_law_person", "_law_reach", "_law_top", "_law_found", "_law_seen", "_law_index", "_law_some", "_law_sets", "_law_closed", "_law_least", "_law_inner", "_law_k", "_law_arc", "_law_other", "_law_one"]
theorem scLaw : FnScope NL ["_law_script"] (defScope sLaw) := ⟨rfl, rfl, rfl, by decide +kernel, rfl, by decide +kernel, by decide +kernel⟩
theorem ndL : NL.Nodup := scLaw.nd
/-- a def that the law calls -/
structure Cal (P : Program) (w : World) (K : PySem.W.Frag) (mg : Str → Option Value) (base : Heap) (k : Nat) (x : Str) (ps : List Str) (sp : Sp) : Prop where
  ex : ∃ (f : Addr) (fd : FuncData), FnOk P w K mg base CX0 k f fd ps sp ∧ PySem.W.keepIn K (.ref f) = true ∧ Binds K fd ps [] ∧ mg x = some (.ref f)
structure Base (T1 T2 T3 a b : Addr) (ts : List Addr) (n : Nat) (arcs : Arcs) (H : Hp) : Prop where
  web : WebAt H a b ts n arcs
  t1 : TabG H T1
  t2 : TabG H T2
  t3 : TabG H T3
theorem Base.kp {T1 T2 T3 a b : Addr} {ts : List Addr} {n : Nat} {arcs : Arcs} {H H' : Hp} (h : Base T1 T2 T3 a b ts n arcs H) (k : Kp H H') : Base T1 T2 T3 a b ts n arcs H' := ⟨h.web.kp k, k.tab _ h.t1, k.tab _ h.t2, k.tab _ h.t3⟩
def scOther : Scope := { kind := .function, names := [(".0", .local), ("_law_other", .local), ("_law_some", .cell)], isGenerator := false, isCoroutine := false }
section
variable {X : Cx}
theorem neD (K : PySem.W.Frag) (hu : X.A.units + 64 < cLine) (h : X.K = K := by rfl) : OpR X (compareOp .NotEq) (rNeD K) := h ▸ op_neD hu
theorem eqD (K : PySem.W.Frag) (hu : X.A.units + 64 < cLine) (h : X.K = K := by rfl) : OpR X (compareOp .Eq) (rEqD K) := h ▸ op_eqD hu
theorem piT (K : PySem.W.Frag) {tg l : Expr} {tl : TE} (hl : PE X l tl) (h : X.K = K := by rfl) : PI X tg l (iTup K tl) := h ▸ pi_tup hl
end
theorem eqv_nil {ds : List PyData} : PyData.eqv (.list ds) (.list []) = ds.isEmpty := by
  cases ds <;> simp [PyData.eqv, PyData.eqvAll]
theorem lay_dT (l : List Nat) : (dT l).canLay0 = true := lay_T l
section
variable {K : PySem.W.Frag} {H : Hp}
theorem dp_rows {d : Addr} {M : List (Addr × List Nat)} (h : H d = some (.lst (refsV M))) (hR : RowsAt H M) : Dp K H (.ref d) (.list (M.map fun q => dT q.2)) := by
  refine .lst (SqL.of h) ?_
  have : ∀ M : List (Addr × List Nat), RowsAt H M → DpAll K H (refsV M) (M.map fun q => dT q.2) := by
    intro M
    induction M with
    | nil => intro _; exact .nil
    | cons q M ih => intro hR; exact .cons (dp_T (hR q (by simp))) (ih fun z hz => hR z (by simp [hz]))
  exact this M hR
theorem shaped_rows (M : List (Addr × List Nat)) : SeqAt.shaped (.list (M.map fun q => dT q.2)) = true := shaped_list (fun a => lay_T a.2) (fun a => depth_T a.2) M
theorem dp_ns {d : Addr} {l : List Nat} (h : H d = some (.lst (vNs l))) : Dp K H (.ref d) (.list (dNs l)) := .lst (SqL.of h) (dpAll_ns l)
theorem shaped_ns (l : List Nat) : SeqAt.shaped (.list (dNs l)) = true := shaped_list (g := fun (x : Nat) => PyData.int (x : Int)) (fun a => by simp [PyData.canLay0]) (fun a => by simp [PyData.depth]) l
theorem dp_e {d : Addr} (h : H d = some (.lst [])) : Dp K H (.ref d) (.list []) := dp_ns (l := []) h
theorem dp_u {d : Addr} (h : H d = some (.tup [])) : Dp K H (.ref d) (dT []) := dp_T (l := []) h
end
variable {P : Program} {w : World} {K : PySem.W.Frag} {mg : Str → Option Value} {base : Heap}
abbrev XL (P : Program) (w : World) (K : PySem.W.Frag) (mg : Str → Option Value) (base : Heap) (f : Addr) (cdv : Value) (A : Around) (outer : List Env) (s : Shared) (H0 : Hp) (E : XK) : Cx := (cxOf CX0 P w K mg base NL "law" (defScope sLaw) f cdv A outer s H0 E).nox
abbrev pAl : List Str := ["_law_found", "_law_due"]
theorem law_F {f : Addr} {cdv : Value} {A : Around} {outer : List Env} {s : Shared} {H0 : Hp} {E : XK} {Q : VK} {T1 T2 T3 : Addr} (N : Names mg) (hr : Room 7 (A.deeper (envOfC "law" (defScope sLaw) s.heap.objs.size f cdv)))
    (CA : Cal P w K mg base 3 "_law_alike" pAl (spAlike (REqT (REqT REq0)))) (CA0 : Cal P w K mg base 1 "_law_alike" pAl (spAlike REq0)) (CS : Cal P w K mg base 7 "springs" ["web"] (spSprings T1 T2)) (CL : Cal P w K mg base 7 "least_left" ["web"] (spLeastLeft T1 T2))
    (q : ∀ H', Q (.bl true) H') :
    ∃ t, PSs (XL P w K mg base f cdv A outer s H0 E) ((defBody sLaw).drop 13) t ∧ ∀ (a b : Addr) (ts : List Addr) (n : Nat) (arcs : Arcs), Web n arcs → ∀ (y0 y1 y3 y4 y5 y6 y7 y8 y9 y10 y12 y13 y14 y15 y16 y17 : Option V) (cl : Addr) (L : List (Addr × List Nat)) (H : Hp), Base T1 T2 T3 a b ts n arcs H → H cl = some (.lst (refsV L)) → RowsAt H L → L.map (·.2) = closed n arcs →
      t { nx := fun _ H' => Q .non H', rt := Q } [y0, y1, some (.ref a), y3, y4, y5, y6, y7, y8, y9, y10, some (.ref cl), y12, y13, y14, y15, y16, y17] H := by
  obtain ⟨fA, fdA, GA, kA, bA, gA⟩ := CA.ex
  obtain ⟨fB, fdB, GB, kB, bB, gB⟩ := CA0.ex
  obtain ⟨fS, fdS, GS, kS, bS, gS⟩ := CS.ex
  obtain ⟨fL, fdL, GL, kL, bL, gL⟩ := CL.ex
  refine ⟨_, pss_cons (ps_set (i := 12) ndL rfl (.inl rfl) (pe_lst pa_nil))
    (pss_cons (ps_for PassesOwn.never rfl (pi_list (pv 11)) (pg_name (i := 9) ndL rfl (.inr rfl))
      (pss_cons (ps_setLc (i := 13) (own := [("_law_other", 16)]) rfl ndL rfl rfl (sw_true rfl rfl rfl (by decide +kernel)) (pi_list (pv 11)) (blkOk_by (own := [("_law_other", 16)]) (N := NL) (sc := defScope sLaw) (by decide +kernel))
          (fun _ _ _ _ _ => pg_name (i := 16) ndL rfl (.inl rfl))
          (fun _ _ _ _ _ => pts_one (PW.pt (pw_and (pt_cmpR (neD K (hu64 hr)) (pv 16) (pv 9) (nomark _)) (pw_and (pt_cmpR (neD K (hu64 hr)) (pv 16) (pe_tup pa_nil) (nomark _))
            (pw_and1 (pt_cmpR (eqD K (hu64 hr))
              (pe_lc (own := [("_law_one", 17)]) rfl ndL (piT K (pv 16)) (blkOk_by (own := [("_law_one", 17)]) (N := NL) (sc := scOther) (by decide +kernel))
                (fun _ _ _ _ _ => pg_name (i := 17) ndL rfl (.inl rfl))
                (fun _ _ _ _ _ => pts_one (pt_cmpR (notInS K) (pv 17) (pv 9) (by rfl)))
                (fun _ _ _ _ _ => pv 17)) (pe_lst pa_nil) (nomark _)))))))
          (fun _ _ _ _ _ => pv 16))
      (pss_one (ps_if (PW.pt (pw_and (pt_cmpR (op_neD (hu64 hr)) (pv 9) (pe_tup pa_nil) (nomark _)) (pw_and1 (pt_cmpR (op_eqD (hu64 hr)) (pv 13) (pe_lst pa_nil) (nomark _)))))
        (pss_one (ps_expr (pe_bm PySem.F.plainAttrs_list PySem.F.slot_list_append PySem.F.type_list_append mt_append (pv 12) (pa_cons (pv 9) pa_nil)))) pss_nil))))
    (pss_one (ps_ret (pe_and (pe_call GA (hr.mono (by decide)) (by rfl) gA kA bA .nil pass0 (pa_cons (pe_call GS hr (by rfl) gS kS bS .nil pass0 (pa_cons (pv 2) pa_nil))
        (pa_cons (pe_callTy call_tuple_of (by rfl) N.tuple boot_tuple (pa_cons (pe_callB (SE.cr_sortT (hu64 hr)) (by rfl) N.sorted boot_sorted (pa_cons (pv 12) pa_nil)) pa_nil)) pa_nil)))
      (pe_one (pe_call GB (hr.mono (by decide)) (by rfl) gB kB bB .nil pass0 (pa_cons (pe_call GL hr (by rfl) gL kL bL .nil pass0 (pa_cons (pv 2) pa_nil)) (pa_cons (pe_callB call_len_seq (by rfl) N.len PySem.boot_len (pa_cons (pv 12) pa_nil)) pa_nil)))))))), ?_⟩
  intro a b ts n arcs hw y0 y1 y3 y4 y5 y6 y7 y8 y9 y10 y12 y13 y14 y15 y16 y17 cl L H B hcl hR eL
  have h6 := hw.n6
  have hLlen : L.length ≤ 64 := by
    have e := congrArg List.length eL
    rw [List.length_map] at e
    rw [e]
    have h2 := sets_small (i := n) h6
    rw [List.take_of_length_le (by rw [people_len]; exact Nat.le_refl _)] at h2
    exact Nat.le_trans (List.length_filter_le _ _) h2
  have hmem : ∀ z ∈ L, z.2 ∈ closed n arcs := fun z hz => by rw [← eL]; exact List.mem_map_of_mem hz
  have hO : ∀ z ∈ L, z.2.length ≤ 6 := fun z hz => by
    have := (mem_closed.mp (hmem z hz)).1.length_le
    rw [people_len] at this
    omega
  refine ⟨Nat.zero_le _, fun le hle => ?_⟩
  have k0 := Kp.new (o := .lst []) hle
  refine ⟨.ref cl, rfl, cl, rfl, ⟨_, SqL.of (k0.lst hcl)⟩, ?_⟩
  refine for_it (walk_list (xs := refsV L)) (fun j σ H' => ∃ (y9 y13 : Option V), σ = [y0, y1, some (.ref a), y3, y4, y5, y6, y7, y8, y9, y10, some (.ref cl), some (.ref le), y13, y14, y15, y16, y17] ∧ Kp H H' ∧ H' le = some (.lst (refsV ((L.take j).filter fun q => isLeast (closed n arcs) q.2))))
    ⟨y9, y13, rfl, k0, upd_same⟩ (fun j σ H' _ h => ?_) (fun j x σ H3 H4 hj h y => ?_) (fun σ H' h => ?_)
  · obtain ⟨_, _, _, k, _⟩ := h
    exact SqL.of (k.lst hcl)
  · obtain ⟨y9, y13, rfl, k, hlej⟩ := h
    obtain ⟨rfl, hx⟩ := y
    obtain ⟨qq, eq, rfl, hqm⟩ := refsV_at hx
    refine ⟨.ref cl, rfl, cl, rfl, ⟨_, SqL.of (k.lst hcl)⟩, fun D hD => ?_⟩
    refine lc_it (walk_list (xs := refsV L)) (fun i H' => Kp H4 H' ∧ H' D = some (.lst (refsV ((L.take i).filter fun z => isInner qq.2 z.2))))
      ⟨Kp.new hD, upd_same⟩ (fun i H' _ h => SqL.of ((k.trans h.1).lst hcl)) (fun i x H5 H6 hi h y => ?_) (fun H' h => ?_)
    · obtain ⟨k5, hD5⟩ := h
      obtain ⟨rfl, hx⟩ := y
      obtain ⟨zz, ez, rfl, hzm⟩ := refsV_at hx
      have kk := k.trans k5
      have hq5 := kk.tup (hR qq hqm)
      have hz5 := kk.tup (hR zz hzm)
      refine ⟨rfl, .ref zz.1, rfl, .ref qq.1, rfl, dT zz.2, dT qq.2, dp_T hz5, dp_T hq5, shaped_T _, shaped_T _, _, rfl, ?_⟩
      rw [eqv_T]
      by_cases c1 : zz.2 = qq.2
      · rw [decide_eq_true c1]
        refine iteF ⟨k5, ?_⟩
        rw [filter_no ez (by show isInner _ _ = false; unfold isInner; rw [decide_eq_true c1]; rfl)]
        exact hD5
      rw [decide_eq_false c1]
      refine iteT ⟨.ref zz.1, rfl, Nat.zero_le _, fun u hu => ?_⟩
      have k6 := k5.add (o := .tup []) hu
      have kk6 := k.trans k6
      refine ⟨dT zz.2, dT [], dp_T (kk6.tup (hR zz hzm)), dp_u upd_same, shaped_T _, shaped_T _, _, rfl, ?_⟩
      rw [eqv_T]
      have hD6 : (upd H6 u (.tup [])) D = some (.lst (refsV ((L.take i).filter fun z => isInner qq.2 z.2))) := (Kp.new hu).lst hD5
      by_cases c2 : zz.2 = []
      · rw [decide_eq_true c2]
        refine iteF ⟨k6, ?_⟩
        rw [filter_no ez (by show isInner _ _ = false; unfold isInner; rw [decide_eq_true c2]; simp)]
        exact hD6
      rw [decide_eq_false c2]
      refine iteT ⟨.ref zz.1, rfl, zz.1, rfl, ⟨_, SqT.of (kk6.tup (hR zz hzm))⟩, fun D2 hD2 => ?_⟩
      refine lc_it (walk_tup (xs := vNs zz.2)) (fun m H' => Kp (upd H6 u (.tup [])) H' ∧ H' D2 = some (.lst (vNs ((zz.2.take m).filter fun x => !decide (x ∈ qq.2)))))
        ⟨Kp.new hD2, upd_same⟩ (fun m H' _ h => SqT.of ((kk6.trans h.1).tup (hR zz hzm))) (fun m x H7 H8 hm h y => ?_) (fun H' h => ?_)
      · obtain ⟨k7, hD7⟩ := h
        obtain ⟨rfl, hx⟩ := y
        obtain ⟨xx, exx, rfl, hxm⟩ := vNs_at hx
        refine ⟨rfl, vN xx, rfl, .ref qq.1, rfl, qq.1, _, rfl, .inr (SqT.of ((kk6.trans k7).tup (hR qq hqm))), rfl, flat_ns _, _, rfl, ?_⟩
        show if (if true = true then !inV (vN xx) (vNs qq.2) else inV (vN xx) (vNs qq.2)) = true then _ else _
        rw [if_pos (show true = true from rfl), in_ns]
        by_cases c : xx ∈ qq.2
        · rw [decide_eq_true c]
          refine iteF ⟨k7, ?_⟩
          rw [filter_no exx (by rw [decide_eq_true c]; rfl)]
          exact hD7
        · rw [decide_eq_false c]
          refine iteT ⟨vN xx, rfl, _, hD7, ?_, k7.put hD2, ?_⟩
          · rw [List.length_map]
            have h1 := filter_len_le (fun x => !decide (x ∈ qq.2)) zz.2 m
            have h2 := hO zz hzm
            exact small1000 (by omega)
          · rw [upd_same, filter_yes exx (by rw [decide_eq_false c]; rfl), vNs_snoc]
      · obtain ⟨k7, hD7⟩ := h
        rw [List.length_map, List.take_length] at hD7
        refine ⟨Nat.zero_le _, fun e he => ?_⟩
        have k8 := k7.add (o := .lst []) he
        refine ⟨.list (dNs (outOf qq.2 zz.2)), .list [], dp_ns ((Kp.new he).lst hD7), dp_e upd_same, shaped_ns _, by decide, _, rfl, ?_⟩
        rw [eqv_nil, List.isEmpty_map]
        have hD8 := k8.lst hD6
        by_cases c3 : (outOf qq.2 zz.2).isEmpty = true
        · rw [c3]
          refine iteT ⟨.ref zz.1, rfl, _, hD8, ?_, (k6.trans k8).put hD, ?_⟩
          · rw [List.length_map]
            have h1 := filter_len_le (fun z : Addr × List Nat => isInner qq.2 z.2) L i
            exact small1000 (by omega)
          · rw [upd_same, filter_yes ez (by show isInner _ _ = true; unfold isInner; rw [decide_eq_false c1, decide_eq_false c2, c3]; rfl)]
            show _ = some (HO.lst (refsV _))
            unfold refsV
            rw [List.map_append]
            rfl
        · rw [Bool.eq_false_iff.mpr c3]
          refine iteF ⟨k6.trans k8, ?_⟩
          rw [filter_no ez (by show isInner _ _ = false; unfold isInner; rw [Bool.eq_false_iff.mpr c3]; simp)]
          exact hD8
    · obtain ⟨k5, hD5⟩ := h
      rw [List.length_map, List.take_length] at hD5
      have kk := k.trans k5
      have ein : (L.filter fun z => isInner qq.2 z.2).isEmpty = (inner (closed n arcs) qq.2).isEmpty := by
        unfold inner
        rw [← eL, List.filter_map, List.isEmpty_map]
        rfl
      refine ⟨.ref qq.1, rfl, Nat.zero_le _, fun u hu => ?_⟩
      have k6 := kk.add (o := .tup []) hu
      refine ⟨dT qq.2, dT [], dp_T (k6.tup (hR qq hqm)), dp_u upd_same, shaped_T _, shaped_T _, _, rfl, ?_⟩
      rw [eqv_T]
      have hle6 := ((k5.add (o := .tup []) hu).lst hlej)
      have noL : isLeast (closed n arcs) qq.2 = false → ∀ (H9 : Hp) (z9 z13 : Option V), Kp H H9 → H9 le = some (.lst (refsV ((L.take j).filter fun q => isLeast (closed n arcs) q.2))) → ∃ (y9 y13 : Option V), ([y0, y1, some (.ref a), y3, y4, y5, y6, y7, y8, z9, y10, some (.ref cl), some (.ref le), z13, y14, y15, y16, y17] : L2.St) = [y0, y1, some (.ref a), y3, y4, y5, y6, y7, y8, y9, y10, some (.ref cl), some (.ref le), y13, y14, y15, y16, y17] ∧ Kp H H9 ∧ H9 le = some (.lst (refsV ((L.take (j + 1)).filter fun q => isLeast (closed n arcs) q.2))) := fun hn H9 z9 z13 k9 h9 => by
        refine ⟨_, _, rfl, k9, ?_⟩
        rw [filter_no eq hn]
        exact h9
      by_cases c1 : qq.2 = []
      · rw [decide_eq_true c1]
        exact iteF (noL (by unfold isLeast; rw [decide_eq_true c1]; rfl) _ _ _ k6 hle6)
      rw [decide_eq_false c1]
      refine iteT ⟨.ref D, rfl, Nat.zero_le _, fun e he => ?_⟩
      have k7 := k6.add (o := .lst []) he
      have hD7 := (((Kp.new (o := .tup []) hu).add (o := .lst []) he).lst hD5)
      have hle7 := ((Kp.new (o := .lst []) he).lst hle6)
      refine ⟨.list ((L.filter fun z => isInner qq.2 z.2).map fun q => dT q.2), .list [], dp_rows hD7 (fun z hz => k7.tup (hR z (List.mem_filter.mp hz).1)), dp_e upd_same, shaped_rows _, by decide, _, rfl, ?_⟩
      rw [eqv_nil, List.isEmpty_map, ein]
      by_cases c2 : (inner (closed n arcs) qq.2).isEmpty = true
      · rw [c2]
        refine iteT ⟨.ref le, rfl, .inl ⟨rfl, _, .inl (.inl hle7)⟩, .ref qq.1, rfl, le, _, _, rfl, rfl, hle7, ?_, ?_⟩
        · rw [List.length_map]
          have h1 := filter_len_le (fun q : Addr × List Nat => isLeast (closed n arcs) q.2) L j
          exact small1000 (by omega)
        · refine ⟨_, _, rfl, k7.put hle, ?_⟩
          rw [upd_same, filter_yes eq (by show isLeast _ _ = true; unfold isLeast; rw [decide_eq_false c1, c2]; rfl)]
          show _ = some (HO.lst (refsV _))
          unfold refsV
          rw [List.map_append]
          rfl
      · rw [Bool.eq_false_iff.mpr c2]
        exact iteF (noL (by unfold isLeast; rw [Bool.eq_false_iff.mpr c2]; simp) _ _ _ k7 hle7)
  · obtain ⟨y9, y13, rfl, k, hle1⟩ := h
    rw [List.length_map, List.take_length] at hle1
    have B1 := B.kp k
    have elst : (L.filter fun q => isLeast (closed n arcs) q.2).map (·.2) = least n arcs := by
      unfold least
      rw [← eL, List.filter_map]
      rfl
    generalize hLL : (L.filter fun q => isLeast (closed n arcs) q.2) = LL at hle1 elst
    have hLR : RowsAt H' LL := fun z hz => k.tup (hR z (by rw [← hLL] at hz; exact (List.mem_filter.mp hz).1))
    have hne : ∀ z ∈ LL, z.2 ≠ [] := fun z hz => by
      have : z.2 ∈ least n arcs := by rw [← elst]; exact List.mem_map_of_mem hz
      exact (mem_least.mp this).2.1
    refine ⟨.ref a, rfl, n, arcs, a, b, ts, rfl, B1.web, hw, B1.t1, B1.t2, fun H1 l1 L1 k1 hl1 hS1 hH1 => ?_⟩
    have B2 := B1.kp k1
    have k2 := k.trans k1
    have eVL : (LL.map fun z => (z.1, iN z.2)).map (fun q => V.ref q.1) = refsV LL := by rw [List.map_map]; rfl
    refine ⟨.ref le, rfl, le, LL.map (fun z => (z.1, iN z.2)), rfl, by rw [eVL]; exact k1.lst hle1, ?_, ?_, fun p hp => ⟨p, _, rfl, .inl ⟨SqL.of upd_same, fun t ht => ?_⟩⟩⟩
    · intro z hz
      obtain ⟨y, hy, rfl⟩ := List.mem_map.mp hz
      show H1 y.1 = some (.tup ((iN y.2).map V.int))
      rw [iN_V]
      exact k1.tup (hLR y hy)
    · intro z hz
      obtain ⟨y, hy, rfl⟩ := List.mem_map.mp hz
      intro e
      refine hne y hy ?_
      have e : y.2.map _ = [] := e
      exact List.map_eq_nil_iff.mp e
    have k3 := (Kp.new (o := .lst ((SE.srt (LL.map fun z => (z.1, iN z.2))).map fun q => V.ref q.1)) hp).add (o := .tup ((SE.srt (LL.map fun z => (z.1, iN z.2))).map fun q => V.ref q.1)) ht
    have esame : (SE.srt L1).map (·.2) = (SE.srt (LL.map fun z => (z.1, iN z.2))).map (·.2) := by
      refine SE.srt_same ?_
      rw [hS1.1, List.map_map]
      have : LL.map ((fun q : Addr × List Int => q.2) ∘ fun z : Addr × List Nat => (z.1, iN z.2)) = (LL.map (·.2)).map iN := by rw [List.map_map]; rfl
      rw [this, elst]
      exact (keys_perm hw).map iN
    have hklen : (keys n arcs).length ≤ 6 := Nat.le_trans keys_len h6
    have hl1len : (SE.srt L1).length ≤ 6 := by
      rw [SE.srt_len]
      have e := congrArg List.length hS1.1
      rw [List.length_map, List.length_map] at e
      omega
    have hR2 : ∀ z ∈ SE.srt (LL.map fun z => (z.1, iN z.2)), H1 z.1 = some (.tup (z.2.map V.int)) := fun z hz => by
      obtain ⟨y, hy, rfl⟩ := List.mem_map.mp ((SE.srt_perm _).mem_iff.mp hz)
      show H1 y.1 = some (.tup ((iN y.2).map V.int))
      rw [iN_V]
      exact k1.tup (hLR y hy)
    have hlen2 : ∀ z ∈ SE.srt (LL.map fun z => (z.1, iN z.2)), z.2.length ≤ 6 := fun z hz => by
      obtain ⟨y, hy, rfl⟩ := List.mem_map.mp ((SE.srt_perm _).mem_iff.mp hz)
      show (iN y.2).length ≤ 6
      rw [List.length_map]
      exact hO y (by rw [← hLL] at hy; exact (List.mem_filter.mp hy).1)
    have hR1 : ∀ z ∈ SE.srt L1, H1 z.1 = some (.tup (z.2.map V.int)) := fun z hz => hS1.2 z ((SE.srt_perm _).mem_iff.mp hz)
    generalize SE.srt (LL.map fun z => (z.1, iN z.2)) = M2 at k3 esame hR2 hlen2
    generalize SE.srt L1 = M1 at hH1 esame hl1len hR1
    refine ⟨.ref l1, .ref t, rfl, ⟨l1, t, _, _, rfl, rfl, k3.tup hH1, upd_same, ?_, ?_, ?_⟩, fun H5 k5 => ⟨true, rfl, iteT ?_⟩⟩
    · have e := congrArg List.length esame
      rw [List.length_map, List.length_map] at e
      rw [List.length_map, List.length_map, e]
    · rw [List.length_map]
      omega
    · intro i u v eu ev
      rw [List.getElem?_map] at eu ev
      cases e1 : M1[i]? with
      | none => rw [e1] at eu; cases eu
      | some z1 =>
        cases e2 : M2[i]? with
        | none => rw [e2] at ev; cases ev
        | some z2 =>
          rw [e1] at eu
          rw [e2] at ev
          cases eu
          cases ev
          have ez : z1.2 = z2.2 := by
            have e := congrArg (fun l => l[i]?) esame
            simp only [List.getElem?_map, e1, e2, Option.map_some] at e
            exact Option.some.inj e
          have m1 := List.mem_of_getElem? e1
          have m2 := List.mem_of_getElem? e2
          refine ⟨z1.1, z2.1, z1.2.map V.int, z2.2.map V.int, rfl, rfl, k3.tup (hR1 z1 m1), k3.tup (hR2 z2 m2), by rw [ez], ?_, ?_⟩
          · rw [List.length_map]
            rw [ez]
            exact Nat.le_trans (hlen2 z2 m2) (by decide)
          · intro m x y ex ey
            rw [ez] at ex
            rw [List.getElem?_map] at ex ey
            cases e3 : z2.2[m]? with
            | none => rw [e3] at ex; cases ex
            | some w =>
              rw [e3] at ex ey
              cases ex
              cases ey
              exact ⟨w, rfl, rfl⟩
    have B3 := B2.kp (k3.trans k5)
    refine ⟨.ref a, rfl, n, arcs, a, b, ts, rfl, B3.web, hw, B3.t1, B3.t2, fun H6 k6 => ?_⟩
    have kall := k1.trans ((k3.trans k5).trans k6)
    refine ⟨.ref le, rfl, le, _, rfl, .inl (SqL.of (kall.lst hle1)), _, _, rfl, ⟨((keys n arcs).length : Int), rfl, ?_⟩, fun H7 _ => q H7⟩
    have e := congrArg List.length elst
    rw [List.length_map] at e
    rw [List.length_map, e, (keys_perm hw).length_eq]
end BD
set_option maxRecDepth 100000
set_option maxHeartbeats 4000000
namespace BD
open PySem PySem.Spec PyProof.Rows L2 GxR BM
/-! ### the law: sets and closed sets -/
theorem RowsAt.lput {H : Hp} {M : List (Addr × List Nat)} {D : Addr} {xs : List V} {o : HO} (h : RowsAt H M) (hD : H D = some (.lst xs)) : RowsAt (upd H D o) M := fun q hq => by
  have := h q hq
  rw [upd_ne (ne_of this hD (by intro z; cases z))]
  exact this
section
variable {X : Cx}
theorem catA (K : PySem.W.Frag) (h : X.K = K := by rfl) : OpR X (binaryOp .Add) (rCatA K) := h ▸ op_catA
end
variable {P : Program} {w : World} {K : PySem.W.Frag} {mg : Str → Option Value} {base : Heap}
theorem law_E {f : Addr} {cdv : Value} {A : Around} {outer : List Env} {s : Shared} {H0 : Hp} {E : XK} {Q : VK} {T1 T2 T3 : Addr} (N : Names mg) (hr : Room 7 (A.deeper (envOfC "law" (defScope sLaw) s.heap.objs.size f cdv)))
    (CA : Cal P w K mg base 3 "_law_alike" pAl (spAlike (REqT (REqT REq0)))) (CA0 : Cal P w K mg base 1 "_law_alike" pAl (spAlike REq0)) (CS : Cal P w K mg base 7 "springs" ["web"] (spSprings T1 T2)) (CL : Cal P w K mg base 7 "least_left" ["web"] (spLeastLeft T1 T2))
    (CP : Cal P w K mg base 1 "_law_people" ["_law_web_here"] spLPeople) (CC : Cal P w K mg base 7 "closed_count" ["web"] (spClosedCount T1 T3))
    (q : ∀ H', Q (.bl true) H') :
    ∃ t, PSs (XL P w K mg base f cdv A outer s H0 E) ((defBody sLaw).drop 9) t ∧ ∀ (a b : Addr) (ts : List Addr) (n : Nat) (arcs : Arcs), Web n arcs → ∀ (y0 y1 y3 y4 y5 y6 y7 y8 y9 y10 y11 y12 y13 y14 y15 y16 y17 : Option V) (H : Hp), Base T1 T2 T3 a b ts n arcs H →
      t { nx := fun _ H' => Q .non H', rt := Q } [y0, y1, some (.ref a), y3, y4, y5, y6, y7, y8, y9, y10, y11, y12, y13, y14, y15, y16, y17] H := by
  obtain ⟨tF, hF, rF⟩ := law_F (f := f) (cdv := cdv) (A := A) (outer := outer) (s := s) (H0 := H0) (E := E) (Q := Q) (T3 := T3) N hr CA CA0 CS CL q
  obtain ⟨fB, fdB, GB, kB, bB, gB⟩ := CA0.ex
  obtain ⟨fP, fdP, GP, kP, bP, gP⟩ := CP.ex
  obtain ⟨fC, fdC, GC, kC, bC, gC⟩ := CC.ex
  refine ⟨_, pss_cons (ps_par (i := 10) (j := 11) rfl ndL rfl rfl (by decide) rfl rfl (pa_cons (pe_lst (pa_cons (pe_tup pa_nil) pa_nil)) (pa_cons (pe_lst pa_nil) pa_nil)) (by rfl))
    (pss_cons (ps_for PassesOwn.never rfl (pi_tup (pe_call GP (hr.mono (by decide)) (by rfl) gP kP bP .nil pass0 (pa_cons (pv 2) pa_nil))) (pg_name (i := 3) ndL rfl (.inr rfl))
      (pss_one (ps_set (i := 10) ndL rfl (.inl rfl) (pe_op op_cat (pv 10) (pe_lc (own := [("_law_some", 9)]) rfl ndL (pi_list (pv 10)) (blkOk_by (own := [("_law_some", 9)]) (N := NL) (sc := defScope sLaw) (by decide +kernel))
        (fun _ _ _ _ _ => pg_name (i := 9) ndL rfl (.inl rfl)) (fun _ _ _ _ _ => pts_nil) (fun _ _ _ _ _ => pe_op (catA K) (pv 9) (pe_tup (pa_cons (pv 3) pa_nil))))))))
    (pss_cons (ps_for PassesOwn.never rfl (pi_list (pv 10)) (pg_name (i := 9) ndL rfl (.inr rfl))
      (pss_one (ps_if (pt_cmpR (op_eqD (hu64 hr)) (pe_lc (own := [("_law_arc", 15)]) rfl ndL (pi_tup (pe_ix ix_tup (pv 2) pe_int (fun _ _ => rfl))) (blkOk_by (own := [("_law_arc", 15)]) (N := NL) (sc := defScope sLaw) (by decide +kernel))
          (fun _ _ _ _ _ => pg_name (i := 15) ndL rfl (.inl rfl))
          (fun _ _ _ _ _ => pts_one (PW.pt (pw_and (pt_cmpR (inS K) (pe_ix (ixT K) (pv 15) pe_int (fun _ _ => rfl)) (pv 9) (by rfl)) (pw_and1 (pt_cmpR (notInS K) (pe_ix (ixT K) (pv 15) pe_int (fun _ _ => rfl)) (pv 9) (by rfl))))))
          (fun _ _ _ _ _ => pv 15)) (pe_lst pa_nil) (nomark _))
        (pss_one (ps_expr (pe_bm PySem.F.plainAttrs_list PySem.F.slot_list_append PySem.F.type_list_append mt_append (pv 11) (pa_cons (pv 9) pa_nil)))) pss_nil)))
    (pss_cons (ps_if (pt_not (pt_val (pe_call GB (hr.mono (by decide)) (by rfl) gB kB bB .nil pass0 (pa_cons (pe_call GC hr (by rfl) gC kC bC .nil pass0 (pa_cons (pv 2) pa_nil)) (pa_cons (pe_callB call_len_seq (by rfl) N.len PySem.boot_len (pa_cons (pv 11) pa_nil)) pa_nil))))) pss_never pss_nil)
    hF))), ?_⟩
  intro a b ts n arcs hw y0 y1 y3 y4 y5 y6 y7 y8 y9 y10 y11 y12 y13 y14 y15 y16 y17 H B
  have h6 := hw.n6
  refine ⟨Nat.zero_le _, fun t0 ht0 => ⟨by show 1 ≤ sizeLine; decide, fun l0 hl0 => ⟨Nat.zero_le _, fun cl hcl0 => ⟨_, _, rfl, ?_⟩⟩⟩⟩
  have k0 := ((Kp.new (o := .tup []) ht0).add (o := .lst [.ref t0]) hl0).add (o := .lst []) hcl0
  have hclN : H cl = none := ((Kp.new (o := .tup []) ht0).add (o := .lst [.ref t0]) hl0).live cl hcl0
  have B0 := B.kp k0
  refine ⟨.ref a, rfl, n, arcs, a, b, ts, rfl, B0.web, h6, fun pp Hb kb hpN hpp => ⟨pp, rfl, ⟨_, SqT.of hpp⟩, ?_⟩⟩
  have e0 : (upd (upd (upd H t0 (.tup [])) l0 (.lst [.ref t0])) cl (.lst [])) t0 = some (.tup []) := by
    have e1 : (upd (upd H t0 (.tup [])) l0 (.lst [.ref t0])) t0 = some (.tup []) := by
      rw [upd_ne (ne_of_none upd_same hl0)]
      exact upd_same
    rw [upd_ne (ne_of_none e1 hcl0)]
    exact e1
  have e1 : (upd (upd (upd H t0 (.tup [])) l0 (.lst [.ref t0])) cl (.lst [])) l0 = some (.lst [.ref t0]) := by
    rw [upd_ne (ne_of_none upd_same hcl0)]
    exact upd_same
  have hclb : Hb cl = some (.lst []) := kb.lst upd_same
  have e0 := kb.tup e0
  have e1 := kb.lst e1
  have k0b := k0.trans kb
  generalize upd (upd (upd H t0 (.tup [])) l0 (.lst [.ref t0])) cl (.lst []) = Hx at kb
  refine for_it (walk_tup (xs := vNs (people n))) (fun i σ H' => ∃ (l : Addr) (z3 : Option V) (L : List (Addr × List Nat)), σ = [y0, y1, some (.ref a), z3, y4, y5, y6, y7, y8, y9, some (.ref l), some (.ref cl), y12, y13, y14, y15, y16, y17] ∧ Kp Hb H' ∧ l ≠ cl ∧ H' l = some (.lst (refsV L)) ∧ RowsAt H' L ∧ L.map (·.2) = setsOf ((people n).take i))
    ⟨l0, y3, [(t0, [])], rfl, Kp.refl Hb, ?_, e1, ?_, rfl⟩ (fun i σ H' _ h => ?_) (fun i x σ H1 H2 hi h y => ?_) (fun σ H' h => ?_)
  · exact fun z => by rw [z, hclb] at e1; cases e1
  · intro q hq
    rw [List.mem_singleton.mp hq]
    exact e0
  · obtain ⟨_, _, _, _, k, _⟩ := h
    exact SqT.of (k.tup hpp)
  · obtain ⟨l, z3, L, rfl, k, hlc, hlL, hR, eL⟩ := h
    obtain ⟨rfl, hx⟩ := y
    obtain ⟨p, ep, rfl, hm⟩ := vNs_at hx
    have hsm : L.length ≤ 64 := by
      have e := congrArg List.length eL
      rw [List.length_map] at e
      rw [e]
      exact sets_small h6
    refine ⟨.ref l, rfl, .ref l, rfl, l, rfl, ⟨_, SqL.of hlL⟩, fun D hD => ?_⟩
    have k3 : Kp H2 (upd H2 D (.lst [])) := Kp.new hD
    refine lc_it (walk_list (xs := refsV L)) (fun j H' => Kp H2 H' ∧ ∃ M : List (Addr × List Nat), H' D = some (.lst (refsV M)) ∧ RowsAt H' M ∧ M.map (·.2) = ((L.take j).map (·.2)).map fun S => S ++ [p])
      ⟨k3, [], upd_same, (fun _ h => nomatch h), rfl⟩ (fun j H' _ h => SqL.of (h.1.lst hlL)) (fun j x H3 H4 hj h y => ?_) (fun H' h => ?_)
    · obtain ⟨k4, M, hDM, hRM, eM⟩ := h
      obtain ⟨rfl, hx⟩ := y
      obtain ⟨qq, eq, rfl, hqm⟩ := refsV_at hx
      refine ⟨rfl, ?_⟩
      dsimp only [tYes]
      have hq3 := k4.tup (hR qq hqm)
      refine iteT ⟨.ref qq.1, rfl, vN p, rfl, by show 1 ≤ sizeLine; decide, fun u hu => ?_⟩
      have k5 := k4.add (o := .tup [vN p]) hu
      refine catA_any ((Kp.new hu).tup hq3) upd_same ?_ (fun t H5 k6 ht => ?_)
      · have : qq.2 ∈ setsOf ((people n).take i) := by rw [← eL]; exact List.mem_map.mpr ⟨qq, hqm, rfl⟩
        have := ((mem_setsOf _ _).mp this).length_le
        rw [List.length_take, people_len] at this
        rw [List.length_map, List.length_singleton]
        exact small64' (by omega)
      · have k56 := (Kp.new (o := .tup [vN p]) hu).trans k6
        have hDM5 := k56.lst hDM
        refine ⟨refsV M, hDM5, ?_, (k4.trans k56).put hD, M ++ [(t, qq.2 ++ [p])], ?_, RowsAt.lput ?_ hDM5, ?_⟩
        · have e := congrArg List.length eM
          rw [List.length_map, List.length_map, List.length_map, List.length_take] at e
          rw [List.length_map, e]
          exact small1000 (by omega)
        · rw [upd_same]
          show _ = some (HO.lst ((M ++ [_]).map _))
          rw [List.map_append]
          rfl
        · intro r hr
          rcases List.mem_append.mp hr with z | z
          · exact k56.tup (hRM r z)
          · rw [List.mem_singleton.mp z]
            show H5 t = _
            rw [ht, vNs_snoc]
        · rw [List.map_append, eM, take_snoc eq, List.map_append, List.map_append]
          rfl
    · obtain ⟨k4, M, hDM, hRM, eM⟩ := h
      rw [List.length_map, List.take_length] at eM
      have eMl : M.length = L.length := by
        have e := congrArg List.length eM
        rw [List.length_map, List.length_map, List.length_map] at e
        exact e
      refine ⟨l, D, _, _, rfl, rfl, k4.lst hlL, hDM, ?_, fun l2 hl2 => ?_⟩
      · rw [List.length_map, List.length_map, eMl]
        exact small64' (by omega)
      · have kbl := (k.trans k4)
        have kn := Kp.new (o := .lst (refsV L ++ refsV M)) hl2
        have k5 := kbl.trans kn
        refine ⟨l2, _, L ++ M, rfl, k5, (ne_of_none (kbl.lst hclb) hl2).symm, ?_, RowsAt.kp ?_ kn, ?_⟩
        · rw [upd_same]
          show _ = some (HO.lst ((L ++ M).map _))
          rw [List.map_append]
        · intro r hr
          rcases List.mem_append.mp hr with z | z
          · exact k4.tup (hR r z)
          · exact hRM r z
        · rw [List.map_append, eM, eL, take_snoc ep, setsOf_snoc]
          rfl
  · obtain ⟨l, z3, L, rfl, k, hlc, hlL, hR, eL⟩ := h
    rw [List.length_map, List.take_length] at eL
    have hsm : L.length ≤ 64 := by
      have e := congrArg List.length eL
      rw [List.length_map] at e
      have h2 := sets_small (i := n) h6
      rw [List.take_of_length_le (by rw [people_len]; exact Nat.le_refl _)] at h2
      omega
    have B1 := B.kp (k0b.trans k)
    have hcl1 := k.lst hclb
    refine ⟨.ref l, rfl, l, rfl, ⟨_, SqL.of hlL⟩, ?_⟩
    have kH := k0b.trans k
    generalize Hb = Hb' at k0b k
    refine for_it (walk_list (xs := refsV L)) (fun j σ H2 => ∃ (z9 : Option V), σ = [y0, y1, some (.ref a), z3, y4, y5, y6, y7, y8, z9, some (.ref l), some (.ref cl), y12, y13, y14, y15, y16, y17] ∧ Kp H H2 ∧ H2 l = some (.lst (refsV L)) ∧ RowsAt H2 L ∧ H2 cl = some (.lst (refsV ((L.take j).filter fun z => isClosed arcs z.2))))
      ⟨y9, rfl, kH, hlL, hR, hcl1⟩ (fun j σ H2 _ h => ?_) (fun j x σ H2 H3 hj h y => ?_) (fun σ H2 h => ?_)
    · obtain ⟨_, _, _, h1, _⟩ := h
      exact SqL.of h1
    · obtain ⟨z9, rfl, k2, hl2, hR2, hcl2⟩ := h
      obtain ⟨rfl, hx⟩ := y
      obtain ⟨qq, eq, rfl, hqm⟩ := refsV_at hx
      have W3 := B.web.kp k2
      refine ⟨.ref a, rfl, a, _, 1, _, rfl, rfl, SqT.of W3.top, atI_nat (j := 1) rfl, b, rfl, ⟨_, SqT.of W3.row⟩, fun D hD => ?_⟩
      refine lc_it (walk_tup (xs := ts.map V.ref)) (fun i H' => Kp H3 H' ∧ ∃ zs : List (Addr × List Nat), H' D = some (.lst (refsV zs)) ∧ RowsAt H' zs ∧ zs.length = ((arcs.take i).filter fun a => decide (a.2 ∈ qq.2) && !decide (a.1 ∈ qq.2)).length)
        ⟨Kp.new hD, [], upd_same, (fun _ h => nomatch h), rfl⟩ (fun i H' _ h => SqT.of (h.1.tup W3.row)) (fun i x H5 H6 hi h y => ?_) (fun H' h => ?_)
      · obtain ⟨k5, zs, hD5, hz5, ez⟩ := h
        obtain ⟨rfl, hx⟩ := y
        obtain ⟨t, ar, rfl, et, er, _⟩ := W3.at_ hx
        have ht := (W3.kp k5).arc i t ar et er
        have hq := k5.tup (hR2 qq hqm)
        refine ⟨rfl, .ref t, rfl, t, _, 1, vN ar.2, rfl, rfl, SqT.of ht, atI_nat (j := 1) rfl, .ref qq.1, rfl, qq.1, _, rfl, .inr (SqT.of hq), rfl, flat_ns _, _, rfl, ?_⟩
        show if (if false = true then !inV (vN ar.2) (vNs qq.2) else inV (vN ar.2) (vNs qq.2)) = true then _ else _
        rw [if_neg Bool.false_ne_true, in_ns]
        by_cases c1 : ar.2 ∈ qq.2
        · rw [decide_eq_true c1]
          refine iteT ⟨.ref t, rfl, t, _, 0, vN ar.1, rfl, rfl, SqT.of ht, atI_nat (j := 0) rfl, .ref qq.1, rfl, qq.1, _, rfl, .inr (SqT.of hq), rfl, flat_ns _, _, rfl, ?_⟩
          show if (if true = true then !inV (vN ar.1) (vNs qq.2) else inV (vN ar.1) (vNs qq.2)) = true then _ else _
          rw [if_pos (show true = true from rfl), in_ns]
          by_cases c2 : ar.1 ∈ qq.2
          · rw [decide_eq_true c2]
            refine iteF ⟨k5, zs, hD5, hz5, ?_⟩
            rw [filter_no er (by rw [decide_eq_true c2]; simp)]
            exact ez
          · rw [decide_eq_false c2]
            refine iteT ⟨.ref t, rfl, _, hD5, ?_, k5.put hD, zs ++ [(t, [ar.1, ar.2])], ?_, RowsAt.lput ?_ hD5, ?_⟩
            · rw [List.length_map, ez]
              have h1 := filter_len_le (fun a : Nat × Nat => decide (a.2 ∈ qq.2) && !decide (a.1 ∈ qq.2)) arcs i
              have h2 := hw.len
              exact small1000 (by omega)
            · rw [upd_same]
              show _ = some (HO.lst ((zs ++ [_]).map _))
              rw [List.map_append]
              rfl
            · intro r hr
              rcases List.mem_append.mp hr with z | z
              · exact hz5 r z
              · rw [List.mem_singleton.mp z]
                exact ht
            · rw [filter_yes er (by rw [decide_eq_true c1, decide_eq_false c2]; rfl), List.length_append, List.length_append, ez]
              rfl
        · rw [decide_eq_false c1]
          refine iteF ⟨k5, zs, hD5, hz5, ?_⟩
          rw [filter_no er (by rw [decide_eq_false c1]; rfl)]
          exact ez
      · obtain ⟨k5, zs, hD5, hz5, ez⟩ := h
        rw [List.length_map, W3.len, List.take_length] at ez
        have ecl : zs.isEmpty = isClosed arcs qq.2 := by
          rw [← entering_nil]
          have ez : zs.length = (entering arcs qq.2).length := ez
          cases zs with
          | nil =>
            have : entering arcs qq.2 = [] := List.length_eq_zero_iff.mp ez.symm
            rw [this]
            rfl
          | cons z zs =>
            cases hE : entering arcs qq.2 with
            | nil => rw [hE] at ez; cases ez
            | cons _ _ => rfl
        refine ⟨Nat.zero_le _, fun e he => ?_⟩
        have k6 := Kp.new (o := .lst []) he
        have k7 := k5.trans k6
        refine ⟨.list (zs.map fun q => dT q.2), .list [], dp_rows (k6.lst hD5) (hz5.kp k6), dp_e upd_same, shaped_rows _, by decide, _, rfl, ?_⟩
        rw [eqv_nil, List.isEmpty_map, ecl]
        by_cases c : isClosed arcs qq.2 = true
        · rw [c]
          have hcl7 := k7.lst hcl2
          refine iteT ⟨.ref cl, rfl, .inl ⟨rfl, _, .inl (.inl hcl7)⟩, .ref qq.1, rfl, cl, _, _, rfl, rfl, hcl7, ?_, ?_⟩
          · rw [List.length_map]
            have h1 := filter_len_le (fun z : Addr × List Nat => isClosed arcs z.2) L j
            exact small1000 (by omega)
          · refine ⟨_, rfl, (k2.trans k7).put hclN, ?_, (hR2.kp k7).lput hcl7, ?_⟩
            · rw [upd_ne hlc]
              exact k7.lst hl2
            · rw [upd_same, filter_yes eq c]
              show _ = some (HO.lst (refsV _))
              unfold refsV
              rw [List.map_append]
              rfl
        · rw [Bool.eq_false_iff.mpr c]
          refine iteF ⟨_, rfl, k2.trans k7, k7.lst hl2, hR2.kp k7, ?_⟩
          rw [filter_no eq (Bool.eq_false_iff.mpr c)]
          exact k7.lst hcl2
    · obtain ⟨z9, rfl, k2, hl2, hR2, hcl2⟩ := h
      rw [List.length_map, List.take_length] at hcl2
      have B2 := B.kp k2
      have eC : (L.filter fun z => isClosed arcs z.2).map (·.2) = closed n arcs := by
        unfold closed
        rw [← eL, List.filter_map]
        rfl
      refine ⟨.ref a, rfl, n, arcs, a, b, ts, rfl, B2.web, hw, B2.t1, B2.t3, fun H5 k5 => ?_⟩
      refine ⟨.ref cl, rfl, cl, _, rfl, .inl (SqL.of (k5.lst hcl2)), _, _, rfl, ⟨((closed n arcs).length : Int), rfl, ?_⟩, fun H6 k6 => ⟨true, rfl, iteF ?_⟩⟩
      · have e := congrArg List.length eC
        rw [List.length_map] at e
        rw [List.length_map, e]
      have k56 := k5.trans k6
      exact rF a b ts n arcs hw y0 y1 z3 y4 y5 y6 y7 y8 z9 (some (.ref l)) y12 y13 y14 y15 y16 y17 cl _ H6 (B2.kp k56) (k56.lst hcl2) (RowsAt.kp (fun z hz => hR2 z (List.mem_filter.mp hz).1) k56) eC
end BD
set_option maxRecDepth 100000
set_option maxHeartbeats 4000000
namespace BD
open PySem PySem.Spec PyProof.Rows L2 GxR BM
/-! ### the law: the play replayed -/
theorem rep_flat (p : Nat) : ∀ n : Nat, (List.replicate n [vN p]).flatten = vNs (List.replicate n p)
  | 0 => rfl
  | n + 1 => by
    rw [List.replicate_succ, List.flatten_cons, rep_flat p n, List.replicate_succ]
    rfl
theorem rep_any {K : PySem.W.Frag} {H : Hp} {u : Addr} {p n : Nat} {Q : VK} (hu : H u = some (.tup [vN p])) (h1 : 1 ≤ n) (h2 : n ≤ 6) (q : ∀ t H', Kp H H' → H' t = some (.tup (vNs (List.replicate n p))) → Q (.ref t) H') : TO.rRepA K (.ref u) (vN n) H Q := by
  refine ⟨u, n, [vN p], rfl, rfl, SqT.of hu, by simp, by omega, by omega, by show 1 ≤ 1000; decide, fun e => ?_, fun e t ht => ?_⟩
  · obtain rfl : n = 1 := by omega
    exact q u H (Kp.refl H) hu
  · refine q t _ (Kp.new ht) ?_
    rw [upd_same, show ((n : Nat) : Int).toNat = n from rfl, rep_flat]
theorem gfound_lt {n : Nat} {arcs : Arcs} (hw : Web n arcs) {p : Nat} (hwin : p ∈ winners n arcs) : ∀ k ∈ gfound arcs p (n - 1), k < arcs.length := fun k hk => by
  obtain ⟨i, hi⟩ := List.getElem?_of_mem hk
  have hi' : i < n - 1 := by
    have := (List.getElem?_eq_some_iff.mp hi).1
    rw [gfound_len] at this
    exact this
  rw [gfound_at arcs p (n - 1) i hi'] at hi
  obtain ⟨_, _, _, pk, _⟩ := gpicked hw hwin (t := i) (by omega)
  rw [← Option.some.inj hi]
  exact pk.lt
variable {P : Program} {w : World} {K : PySem.W.Frag} {mg : Str → Option Value} {base : Heap}
/-- what the law calls -/
structure Calls (P : Program) (w : World) (K : PySem.W.Frag) (mg : Str → Option Value) (base : Heap) (T1 T2 T3 : Addr) : Prop where
  al0 : Cal P w K mg base 1 "_law_alike" pAl (spAlike REq0)
  al1 : Cal P w K mg base 2 "_law_alike" pAl (spAlike (REqT REq0))
  al2 : Cal P w K mg base 3 "_law_alike" pAl (spAlike (REqT (REqT REq0)))
  web : Cal P w K mg base 2 "_law_web" ["_law_row", "_law_most"] (spWeb K)
  taken : Cal P w K mg base 1 "_law_taken" ["_law_row", "_law_many"] (spTaken K)
  done : Cal P w K mg base 2 "_law_done" ["_law_web_here", "_law_some", "_law_log_here"] spDone
  ppl : Cal P w K mg base 1 "_law_people" ["_law_web_here"] spLPeople
  heard : Cal P w K mg base 1 "_law_heard" ["_law_web_here", "_law_person"] spHeard
  winners : Cal P w K mg base 7 "winners" ["web"] (spWinners T1)
  winlog : Cal P w K mg base 7 "win_log" ["web", "person"] (spWinLog T1)
  springs : Cal P w K mg base 7 "springs" ["web"] (spSprings T1 T2)
  least : Cal P w K mg base 7 "least_left" ["web"] (spLeastLeft T1 T2)
  ccount : Cal P w K mg base 7 "closed_count" ["web"] (spClosedCount T1 T3)
theorem law_D {f : Addr} {cdv : Value} {A : Around} {outer : List Env} {s : Shared} {H0 : Hp} {E : XK} {Q : VK} {T1 T2 T3 : Addr} (N : Names mg) (hr : Room 7 (A.deeper (envOfC "law" (defScope sLaw) s.heap.objs.size f cdv)))
    (C : Calls P w K mg base T1 T2 T3) (q : ∀ H', Q (.bl true) H') :
    ∃ t, PSs (XL P w K mg base f cdv A outer s H0 E) ((defBody sLaw).drop 8) t ∧ ∀ (a b : Addr) (ts : List Addr) (n p : Nat) (arcs : Arcs), Web n arcs → ∀ (y0 y1 y4 y5 y6 y7 y8 y9 y10 y11 y12 y13 y14 y15 y16 y17 : Option V) (H : Hp), Base T1 T2 T3 a b ts n arcs H →
      (y6 = some .non ∨ p ∈ winners n arcs ∧ ∃ fo, y6 = some (.ref fo) ∧ H fo = some (.tup (vNs (gfound arcs p (n - 1))))) →
      t { nx := fun _ H' => Q .non H', rt := Q } [y0, y1, some (.ref a), some (vN p), y4, y5, y6, y7, y8, y9, y10, y11, y12, y13, y14, y15, y16, y17] H := by
  obtain ⟨tE, hE, rE⟩ := law_E (f := f) (cdv := cdv) (A := A) (outer := outer) (s := s) (H0 := H0) (E := E) (Q := Q) (T3 := T3) N hr C.al2 C.al0 C.springs C.least C.ppl C.ccount q
  obtain ⟨fD, fdD, GD, kD, bD, gD⟩ := C.done.ex
  obtain ⟨fP, fdP, GP, kP, bP, gP⟩ := C.ppl.ex
  refine ⟨_, pss_cons (ps_if (pt_cmp (pc_notN (pv 6)))
    (pss_cons (ps_if (PW.pt (pw_or (pt_cmpR (op_neD (hu64 hr)) (pe_call GD (hr.mono (by decide)) (by rfl) gD kD bD .nil pass0 (pa_cons (pv 2) (pa_cons (pe_call GP (hr.mono (by decide)) (by rfl) gP kP bP .nil pass0 (pa_cons (pv 2) pa_nil)) (pa_cons (pv 6) pa_nil))))
          (pe_op TO.op_repA (pe_tup (pa_cons (pv 3) pa_nil)) (pe_ix ix_tup (pv 2) pe_int (fun _ _ => rfl))) (nomark _))
        (pw_or1 (pt_cmpR op_ne (pe_callB call_len_seq (by rfl) N.len PySem.boot_len (pa_cons (pv 6) pa_nil)) (pe_op op_sub (pe_ix ix_tup (pv 2) pe_int (fun _ _ => rfl)) pe_int) (nomark _))))) pss_never pss_nil)
    (pss_cons (ps_set (i := 7) ndL rfl (.inr rfl) (pe_lst (pa_cons (pv 3) pa_nil)))
    (pss_one (ps_for PassesOwn.never rfl (pi_tup (pv 6)) (pg_name (i := 8) ndL rfl (.inl rfl))
      (pss_cons (ps_set (i := 9) ndL rfl (.inr rfl) (pe_lc (own := [("_law_k", 14)]) rfl ndL (pi_range1 (by rfl) N.range (pa_cons (pe_callB call_len_seq (by rfl) N.len PySem.boot_len (pa_cons (pe_ix ix_tup (pv 2) pe_int (fun _ _ => rfl)) pa_nil)) pa_nil)) (blkOk_by (own := [("_law_k", 14)]) (N := NL) (sc := defScope sLaw) (by decide +kernel))
          (fun _ _ _ _ _ => pg_name (i := 14) ndL rfl (.inl rfl))
          (fun _ _ _ _ _ => pts_one (PW.pt (pw_and (pt_cmpR (inS K) (pe_ix (ixT K) (pe_ix (ixT K) (pe_ix (ixT K) (pv 2) pe_int (fun _ _ => rfl)) (pv 14) (fun _ _ => rfl)) pe_int (fun _ _ => rfl)) (pv 7) (by rfl))
            (pw_and1 (pt_cmpR (notInS K) (pe_ix (ixT K) (pe_ix (ixT K) (pe_ix (ixT K) (pv 2) pe_int (fun _ _ => rfl)) (pv 14) (fun _ _ => rfl)) pe_int (fun _ _ => rfl)) (pv 7) (by rfl))))))
          (fun _ _ _ _ _ => pv 14)))
      (pss_cons (ps_if (pt_cmpR op_ne (pv 8) (pe_ix ix_list (pv 9) pe_int (fun _ _ => rfl)) (nomark _)) pss_never pss_nil)
      (pss_one (ps_expr (pe_bm PySem.F.plainAttrs_list PySem.F.slot_list_append PySem.F.type_list_append mt_append (pv 7) (pa_cons (pe_ix ix_tup (pe_ix ix_tup (pe_ix ix_tup (pv 2) pe_int (fun _ _ => rfl)) (pv 8) (fun _ _ => rfl)) pe_int (fun _ _ => rfl)) pa_nil)))))))))) pss_nil) hE, ?_⟩
  intro a b ts n p arcs hw y0 y1 y4 y5 y6 y7 y8 y9 y10 y11 y12 y13 y14 y15 y16 y17 H B hf
  have h6 := hw.n6
  have h1 := hw.n1
  rcases hf with rfl | ⟨hwin, fo, rfl, hfo⟩
  · refine ⟨.non, rfl, _, rfl, iteF ?_⟩
    exact rE a b ts n arcs hw y0 y1 (some (vN p)) y4 y5 (some .non) y7 y8 y9 y10 y11 y12 y13 y14 y15 y16 y17 H B
  refine ⟨.ref fo, rfl, _, rfl, iteT ?_⟩
  refine ⟨.ref a, rfl, .ref a, rfl, n, arcs, a, b, ts, rfl, B.web, h6, fun pp H1 k1 hpN hpp => ?_⟩
  refine ⟨.ref fo, rfl, n, arcs, people n, gfound arcs p (n - 1), a, b, pp, fo, ts, rfl, B.web.kp k1, hw, hpp, people_len n, k1.tup hfo, gfound_lt hw hwin, fun p2 H2 k2 h2 => ?_⟩
  rw [overs_end hw hwin] at h2
  have k12 := k1.trans k2
  refine ⟨vN p, rfl, by show 1 ≤ sizeLine; decide, fun u hu => ?_⟩
  have k3 := k12.add (o := .tup [vN p]) hu
  refine ⟨.ref a, rfl, a, _, 0, vN n, rfl, rfl, SqT.of (B.kp k3).web.top, atI_nat (j := 0) rfl, rep_any upd_same h1 h6 fun t H4 k4 ht => ?_⟩
  have kx := (Kp.new (o := .tup [vN p]) hu).trans k4
  have k5 := k12.trans kx
  refine ⟨dT (List.replicate n p), dT (List.replicate n p), dp_T (kx.tup h2), dp_T ht, shaped_T _, shaped_T _, _, rfl, ?_⟩
  rw [eqv_T, decide_eq_true rfl]
  refine iteF ⟨.ref fo, rfl, fo, _, rfl, .inr (SqT.of (k5.tup hfo)), .ref a, rfl, a, _, 0, vN n, rfl, rfl, SqT.of (B.kp k5).web.top, atI_nat (j := 0) rfl, n, 1, rfl, rfl, rfl, !decide (V.int ((vNs (gfound arcs p (n - 1))).length : Int) = V.int ((n : Int) - 1)), rfl, ?_⟩
  rw [List.length_map, gfound_len, show ((n - 1 : Nat) : Int) = (n : Int) - 1 by omega, decide_eq_true rfl]
  refine iteF ⟨vN p, rfl, by show 1 ≤ sizeLine; decide, fun sl hsl => ?_⟩
  have k6 := k5.add (o := .lst [vN p]) hsl
  have hs0 : H sl = none := k5.live sl hsl
  refine ⟨.ref fo, rfl, fo, rfl, ⟨_, SqT.of (k6.tup hfo)⟩, ?_⟩
  refine for_it (walk_tup (xs := vNs (gfound arcs p (n - 1)))) (fun t σ H' => ∃ (y8 y9 : Option V), σ = [y0, y1, some (.ref a), some (vN p), y4, y5, some (.ref fo), some (.ref sl), y8, y9, y10, y11, y12, y13, y14, y15, y16, y17] ∧ Kp H H' ∧ H' sl = some (.lst (vNs (gseen arcs p t))))
    ⟨y8, y9, rfl, k6, upd_same⟩ (fun t σ H' _ h => ?_) (fun t x σ H7 H8 ht h y => ?_) (fun σ H' h => ?_)
  · obtain ⟨_, _, _, k, _⟩ := h
    exact SqT.of (k.tup hfo)
  · obtain ⟨y8, y9, rfl, k, hs⟩ := h
    obtain ⟨rfl, hx⟩ := y
    obtain ⟨z, ez, rfl, hm⟩ := vNs_at hx
    rw [List.length_map, gfound_len] at ht
    rw [gfound_at arcs p (n - 1) t ht] at ez
    obtain rfl := Option.some.inj ez
    obtain ⟨ar, rest, epick, pk, egoal⟩ := gpicked hw hwin (t := t) (by omega)
    have W7 := (B.kp k).web
    refine ⟨.ref a, rfl, a, _, 1, _, rfl, rfl, SqT.of W7.top, atI_nat (j := 1) rfl, b, _, rfl, .inr (SqT.of W7.row), (arcs.length : Int), by rw [List.length_map, W7.len], by omega, by have := hw.len; omega, fun D hD => ?_⟩
    refine lc_it walk_range (fun i H3 => Kp H8 H3 ∧ H3 D = some (.lst (vNs (pickTo arcs (gseen arcs p t) i)))) ⟨Kp.new hD, upd_same⟩ (fun _ _ _ _ => trivial) (fun i x H3 H4 hi h y => ?_) (fun H3 h => ?_)
    · obtain ⟨k8, hDx⟩ := h
      obtain ⟨rfl, hx⟩ := y
      have hx : x = vN i := by rw [hx]; show V.int (0 + (i : Int)) = _; rw [Int.zero_add]
      subst hx
      have hi : i < arcs.length := hi
      have W9 := W7.kp k8
      have hti : i < ts.length := by rw [W7.len]; exact hi
      have et : ts[i]? = some ts[i] := List.getElem?_eq_getElem hti
      have er : arcs[i]? = some arcs[i] := List.getElem?_eq_getElem hi
      have ert : (ts.map V.ref)[i]? = some (.ref ts[i]) := by rw [List.getElem?_map, et]; rfl
      have har := W9.arc i _ _ et er
      have hs9 := k8.lst hs
      rw [pickTo_succ, sel_at er]
      generalize arcs[i] = r at har
      refine ⟨rfl, .ref a, rfl, a, _, 1, _, rfl, rfl, SqT.of W9.top, atI_nat (j := 1) rfl, vN i, rfl, b, _, i, _, rfl, rfl, SqT.of W9.row, atI_nat ert, _, _, 0, vN r.1, rfl, rfl, SqT.of har, atI_nat (j := 0) rfl, .ref sl, rfl, sl, _, rfl, .inl (SqL.of hs9), rfl, flat_ns _, _, rfl, ?_⟩
      show if (if false = true then !inV (vN r.1) (vNs (gseen arcs p t)) else inV (vN r.1) (vNs (gseen arcs p t))) = true then _ else _
      rw [if_neg Bool.false_ne_true, in_ns]
      by_cases c1 : r.1 ∈ gseen arcs p t
      · rw [decide_eq_true c1]
        refine iteT ⟨.ref a, rfl, a, _, 1, _, rfl, rfl, SqT.of W9.top, atI_nat (j := 1) rfl, vN i, rfl, b, _, i, _, rfl, rfl, SqT.of W9.row, atI_nat ert, _, _, 1, vN r.2, rfl, rfl, SqT.of har, atI_nat (j := 1) rfl, .ref sl, rfl, sl, _, rfl, .inl (SqL.of hs9), rfl, flat_ns _, _, rfl, ?_⟩
        show if (if true = true then !inV (vN r.2) (vNs (gseen arcs p t)) else inV (vN r.2) (vNs (gseen arcs p t))) = true then _ else _
        rw [if_pos (show true = true from rfl), in_ns]
        by_cases c2 : r.2 ∈ gseen arcs p t
        · rw [decide_eq_true c2]
          refine iteF ⟨k8, ?_⟩
          rw [show (if (true && !true) = true then [i] else []) = ([] : List Nat) from rfl, List.append_nil]
          exact hDx
        · rw [decide_eq_false c2]
          refine iteT ⟨vN i, rfl, _, hDx, ?_, k8.put hD, ?_⟩
          · rw [List.length_map]
            have := pickTo_len arcs (gseen arcs p t) i
            have := hw.len
            exact small1000 (by omega)
          · rw [upd_same, vNs_snoc]
            rfl
      · rw [decide_eq_false c1]
        refine iteF ⟨k8, ?_⟩
        rw [show (if (false && !decide (r.2 ∈ gseen arcs p t)) = true then [i] else []) = ([] : List Nat) from rfl, List.append_nil]
        exact hDx
    · obtain ⟨k8, hDx⟩ := h
      rw [show ((arcs.length : Nat) : Int).toNat = arcs.length from rfl, show pickTo arcs (gseen arcs p t) arcs.length = pick arcs (gseen arcs p t) from rfl, epick] at hDx
      have hs8 := k8.lst hs
      have k10 := k.trans k8
      refine ⟨vN (gnext arcs (gseen arcs p t)), rfl, .ref D, rfl, D, _, 0, vN (gnext arcs (gseen arcs p t)), rfl, rfl, SqL.of hDx, atI_nat (j := 0) rfl, rfl, _, rfl, ?_⟩
      rw [decide_eq_true rfl]
      have W11 := (B.kp k10).web
      have hk : gnext arcs (gseen arcs p t) < ts.length := by rw [W11.len]; exact pk.lt
      have et : ts[gnext arcs (gseen arcs p t)]? = some ts[gnext arcs (gseen arcs p t)] := List.getElem?_eq_getElem hk
      have ert : (ts.map V.ref)[gnext arcs (gseen arcs p t)]? = some (.ref ts[gnext arcs (gseen arcs p t)]) := by rw [List.getElem?_map, et]; rfl
      refine iteF ⟨.ref sl, rfl, .inl ⟨rfl, _, .inl (.inl hs8)⟩, .ref a, rfl, a, _, 1, _, rfl, rfl, SqT.of W11.top, atI_nat (j := 1) rfl, vN (gnext arcs (gseen arcs p t)), rfl, b, _, _, _, rfl, rfl, SqT.of W11.row, atI_nat ert,
        _, _, 1, _, rfl, rfl, SqT.of (W11.arc _ _ _ et pk.at_), atI_nat (j := 1) rfl, sl, _, _, rfl, rfl, hs8, ?_, ?_⟩
      · rw [List.length_map, gseen_len]
        exact small1000 (by omega)
      · refine ⟨_, _, rfl, k10.put hs0, ?_⟩
        rw [upd_same, vNs_snoc, ← egoal]
        rfl
  · obtain ⟨y8, y9, rfl, k, hs⟩ := h
    exact rE a b ts n arcs hw y0 y1 (some (vN p)) y4 y5 (some (.ref fo)) (some (.ref sl)) y8 y9 y10 y11 y12 y13 y14 y15 y16 y17 H' (B.kp k)
end BD
set_option maxRecDepth 100000
set_option maxHeartbeats 4000000
namespace BD
open PySem PySem.Spec PyProof.Rows L2 GxR BM
/-! ### the law, whole -/
theorem merge_new : ∀ (more acc : List (Key × V)), (∀ kv ∈ more, valV acc kv.1 = none) → (more.map (·.1)).Nodup → mergeK acc more = acc ++ more
  | [], acc, _, _ => (List.append_nil acc).symm
  | (k, v) :: more, acc, h, nd => by
    have hk : valV acc k = none := h (k, v) (by simp)
    show mergeK (putK acc k v) more = _
    rw [putK_new v hk]
    have nd2 := List.nodup_cons.mp (show ((k :: more.map (·.1)) : List Key).Nodup from nd)
    rw [merge_new more (acc ++ [(k, v)]) (fun kv hm => ?_) nd2.2]
    · rw [List.append_assoc]
      rfl
    · rw [valV_snoc k kv.1 v acc hk, if_neg (fun e => nd2.1 (by rw [← e]; exact List.mem_map_of_mem hm))]
      exact h kv (by simp [hm])
/-- one heard: the person, the pair, the list -/
structure Hrd (n : Nat) (arcs : Arcs) (D : Addr) (H : Hp) (z : Nat × Addr × Addr) : Prop where
  pair : H z.2.1 = some (.tup [vN z.1, .ref z.2.2])
  lst : ∃ xs, H z.2.2 = some (.lst xs) ∧ xs.length = (heard n arcs z.1).length
  ne : z.2.2 ≠ D
abbrev kvOf (zs : List (Nat × Addr × Addr)) : List (Key × V) := zs.map fun z => (Sum.inl (z.1 : Int), V.ref z.2.2)
theorem kvOf_keys (zs : List (Nat × Addr × Addr)) : (kvOf zs).map (·.1) = (zs.map (·.1)).map fun (x : Nat) => (Sum.inl (x : Int) : Key) := by
  show (zs.map _).map _ = (zs.map _).map _
  rw [List.map_map, List.map_map]
  rfl
theorem kvOf_nodup {zs : List (Nat × Addr × Addr)} (h : (zs.map (·.1)).Nodup) : ((kvOf zs).map (·.1)).Nodup := by
  rw [kvOf_keys, List.nodup_iff_pairwise_ne, List.pairwise_map]
  refine (List.nodup_iff_pairwise_ne.mp h).imp fun hne e => hne ?_
  have := Sum.inl.inj e
  omega
theorem kvOf_val {zs : List (Nat × Addr × Addr)} (h : (zs.map (·.1)).Nodup) {z : Nat × Addr × Addr} (hz : z ∈ zs) : valV (kvOf zs) (Sum.inl (z.1 : Int)) = some (.ref z.2.2) := by
  induction zs with
  | nil => cases hz
  | cons y zs ih =>
    have nd := List.nodup_cons.mp (show ((y.1 :: zs.map (·.1)) : List Nat).Nodup from h)
    show valV ((Sum.inl (y.1 : Int), V.ref y.2.2) :: kvOf zs) _ = _
    rcases List.mem_cons.mp hz with rfl | hm
    · rw [valV_pos (p := (Sum.inl (z.1 : Int), V.ref z.2.2)) rfl]
    · have hne : ¬ (Sum.inl (y.1 : Int) : Key) = Sum.inl (z.1 : Int) := fun e => nd.1 (by
        have e := Sum.inl.inj e
        have e : y.1 = z.1 := by omega
        rw [e]
        exact List.mem_map_of_mem hm)
      rw [valV_neg (p := (Sum.inl (y.1 : Int), V.ref y.2.2)) hne]
      exact ih nd.2 hm
theorem Base.rput {T1 T2 T3 a b : Addr} {ts : List Addr} {n : Nat} {arcs : Arcs} {H : Hp} {r : Addr} {ys ys' : List V} (h : Base T1 T2 T3 a b ts n arcs H) (hr : H r = some (.lst ys)) : Base T1 T2 T3 a b ts n arcs (upd H r (.lst ys')) := by
  have tt : ∀ T, TabG H T → TabG (upd H r (.lst ys')) T := fun T ⟨ps, e, x⟩ => ⟨ps, by rw [upd_ne (fun z => by rw [z, hr] at e; cases e)]; exact e, x⟩
  have tu : ∀ {c : Addr} {xs : List V}, H c = some (.tup xs) → (upd H r (.lst ys')) c = some (.tup xs) := fun e => by
    rw [upd_ne (fun z => by rw [z, hr] at e; cases e)]
    exact e
  exact ⟨⟨tu h.web.top, tu h.web.row, h.web.len, fun i t r e1 e2 => tu (h.web.arc i t r e1 e2)⟩, tt _ h.t1, tt _ h.t2, tt _ h.t3⟩
variable {P : Program} {w : World} {K : PySem.W.Frag} {mg : Str → Option Value} {base : Heap}
def spLaw (K : PySem.W.Frag) (T1 T2 T3 : Addr) : Sp := fun vs H Q _ => ∃ (sc : Addr) (ns : List Int), vs = [.ref sc] ∧ SqL K H sc (ns.map V.int) ∧ TabG H T1 ∧ TabG H T2 ∧ TabG H T3 ∧ ∀ H', Q (.bl true) H'
theorem ok_law {f : Addr} {fd : FuncData} {T1 T2 T3 : Addr} (N : Names mg) (F : Fun K "law" "law" sLaw f fd) (C : Calls P w K mg base T1 T2 T3) : FnOk P w K mg base CX0 8 f fd ["_law_script"] (spLaw K T1 T2 T3) := by
  obtain ⟨fW, fdW, GW, kW, bW, gW⟩ := C.web.ex
  obtain ⟨fT, fdT, GT, kT, bT, gT⟩ := C.taken.ex
  obtain ⟨fP, fdP, GP, kP, bP, gP⟩ := C.ppl.ex
  obtain ⟨fH, fdH, GH, kH, bH, gH⟩ := C.heard.ex
  obtain ⟨fA, fdA, GA, kA, bA, gA⟩ := C.al1.ex
  obtain ⟨fWi, fdWi, GWi, kWi, bWi, gWi⟩ := C.winners.ex
  obtain ⟨fL, fdL, GL, kL, bL, gL⟩ := C.winlog.ex
  refine F.ok scLaw (fun vs H Q E h => ?_) (fun cdv A outer s H vs Q E hr h => ?_)
  · obtain ⟨sc, ns, rfl, _⟩ := h
    rfl
  · obtain ⟨sc, ns, rfl, hsc, hT1, hT2, hT3, q⟩ := h
    obtain ⟨tD, hD, rD⟩ := law_D (f := f) (cdv := cdv) (A := A) (outer := outer) (s := s) (H0 := H) (E := E) (Q := Q) N hr C q
    refine ⟨_, pss_cons (ps_set (i := 1) ndL rfl (.inl rfl) (pe_lst (pa_cons (pv 0) (pa_cons pe_int (pa_cons pe_int (pa_cons pe_int pa_nil))))))
      (pss_cons (ps_set (i := 2) ndL rfl (.inr rfl) (pe_call GW (hr.mono (by decide)) (by rfl) gW kW bW .nil pass0 (pa_cons (pv 1) (pa_cons pe_int pa_nil))))
      (pss_cons (ps_set (i := 4) ndL rfl (.inr rfl) (pe_callTy (call_dictP rfl) (by rfl) N.dict boot_dict (pa_cons
        (pe_lc (own := [("_law_person", 3)]) rfl ndL (pi_tup (pe_call GP (hr.mono (by decide)) (by rfl) gP kP bP .nil pass0 (pa_cons (pv 2) pa_nil))) (blkOk_by (own := [("_law_person", 3)]) (N := NL) (sc := defScope sLaw) (by decide +kernel))
          (fun _ _ _ _ _ => pg_name (i := 3) ndL rfl (.inl rfl)) (fun _ _ _ _ _ => pts_nil)
          (fun _ _ _ _ _ => pe_tup (pa_cons (pv 3) (pa_cons (pe_call GH (hr.mono (by decide)) (by rfl) gH kH bH .nil pass0 (pa_cons (pv 2) (pa_cons (pv 3) pa_nil))) pa_nil)))) pa_nil)))
      (pss_cons (ps_lock (ps_setLc (i := 5) (own := [("_law_person", 3)]) rfl ndL rfl rfl (sw_true rfl rfl rfl (by decide +kernel)) (pi_keys (pv 4)) (blkOk_by (own := [("_law_person", 3)]) (N := NL) (sc := defScope sLaw) (by decide +kernel))
          (fun _ _ _ _ _ => pg_name (i := 3) ndL rfl (.inl rfl))
          (fun _ _ _ _ _ => pts_one (pt_cmpR op_eq (pe_callB (lenS K) (by rfl) N.len PySem.boot_len (pa_cons (pe_dget (hu_of hr) (pv 4) (pv 3) (fun _ _ => rfl)) pa_nil)) (pe_ix (ixT K) (pv 2) pe_int (fun _ _ => rfl)) (nomark _)))
          (fun _ _ _ _ _ => pv 3)))
      (pss_cons (ps_if (pt_not (pt_val (pe_call GA (hr.mono (by decide)) (by rfl) gA kA bA .nil pass0 (pa_cons (pe_call GWi hr (by rfl) gWi kWi bWi .nil pass0 (pa_cons (pv 2) pa_nil)) (pa_cons (pe_callTy call_tuple_of (by rfl) N.tuple boot_tuple (pa_cons (pv 5) pa_nil)) pa_nil))))) pss_never pss_nil)
      (pss_cons (ps_set (i := 3) ndL rfl (.inr rfl) (pe_op op_add pe_int (pe_call GT (hr.mono (by decide)) (by rfl) gT kT bT .nil pass0 (pa_cons (pv 1) (pa_cons (pe_ix ix_tup (pv 2) pe_int (fun _ _ => rfl)) pa_nil)))))
      (pss_cons (ps_set (i := 6) ndL rfl (.inl rfl) (pe_call GL hr (by rfl) gL kL bL .nil pass0 (pa_cons (pv 2) (pa_cons (pv 3) pa_nil))))
      (pss_cons (ps_if (pt_cmpR op_ne (pe_cmp (pc_isN (pv 6))) (pe_cmpR op_notIn_seq (pv 3) (pv 5) (by rfl)) (nomark _)) pss_never pss_nil)
      hD))))))), ?_⟩
    -- the row
    refine ⟨.ref sc, rfl, by show 4 ≤ sizeLine; decide, fun r hr0 => ?_⟩
    have hrow0 : (upd H r (.lst [.ref sc, .int 0, .int 8018, .int 0])) r = some (.lst [.ref sc, .int 0, .int 8018, .int 0]) := upd_same
    have k0 := Kp.new (o := .lst [.ref sc, .int 0, .int 8018, .int 0]) hr0
    have hSc : Sc K (upd H r (.lst [.ref sc, .int 0, .int 8018, .int 0])) r sc ns := by
      rcases hsc with (h | ⟨o, h⟩) | h
      · exact .inl ⟨ne_of_none h hr0, .inl (k0.lst h)⟩
      · exact .inl ⟨ne_of_none h hr0, .inr ⟨o, k0.at_ _ _ h fun _ z => nomatch z⟩⟩
      · exact .inr h
    refine ⟨.ref r, rfl, r, sc, ns, _, rfl, hrow0, ⟨0, 8018, 0, rfl, by decide, by decide, by decide, by decide⟩, hSc, fun ys1 H1 n arcs a b ts hR1 k1 hW hw => ?_⟩
    have hrow1 : H1 r = some (.lst ys1) := k1.lst upd_same
    have hSc1 : Sc K H1 r sc ns := hSc.put.kp k1
    have hT : ∀ T, TabG H T → TabG H1 T := fun T ht => k1.tab _ (by
      obtain ⟨ps, e, x⟩ := ht
      rw [upd_upd]
      exact ⟨ps, by rw [upd_ne (ne_of_none e hr0)]; exact e, x⟩)
    have B1 : Base T1 T2 T3 a b ts n arcs H1 := ⟨hW, hT _ hT1, hT _ hT2, hT _ hT3⟩
    have h6 := hw.n6
    have h1 := hw.n1
    -- what each hears
    refine ⟨.ref a, rfl, n, arcs, a, b, ts, rfl, B1.web, h6, fun pp H2 k2 hpN hpp => ⟨pp, rfl, ⟨_, SqT.of hpp⟩, fun D hD => ?_⟩⟩
    have hD1 : H1 D = none := k2.live D hD
    refine lc_it (walk_tup (xs := vNs (people n))) (fun i H' => Kp H1 H' ∧ H' pp = some (.tup (vNs (people n))) ∧ ∃ zs : List (Nat × Addr × Addr), H' D = some (.lst (zs.map fun z => V.ref z.2.1)) ∧ (∀ z ∈ zs, Hrd n arcs D H' z) ∧ zs.map (·.1) = (people n).take i)
      ⟨k2.add hD, (Kp.new hD).tup hpp, [], upd_same, (fun _ h => nomatch h), rfl⟩ (fun i H' _ h => SqT.of h.2.1) (fun i x H3 H4 hi h y => ?_) (fun H3 h => ?_)
    · obtain ⟨k3, hp3, zs, hD3, hz3, ez⟩ := h
      obtain ⟨rfl, hx⟩ := y
      obtain ⟨p, ep, rfl, hm⟩ := vNs_at hx
      refine ⟨rfl, ?_⟩
      dsimp only [tYes]
      refine iteT ⟨vN p, rfl, .ref a, rfl, vN p, rfl, n, p, arcs, a, b, ts, rfl, B1.web.kp k3, hw, hm, fun hl H5 xs k5 hlN hhl exs => ?_⟩
      refine ⟨by show 2 ≤ sizeLine; decide, fun t ht => ?_⟩
      have kt := Kp.new (o := .tup [vN p, .ref hl]) ht
      have k6 := k5.trans kt
      have hDt := k6.lst hD3
      refine ⟨_, hDt, ?_, (k3.trans k6).put hD1, ?_, zs ++ [(p, t, hl)], ?_, ?_, ?_⟩
      · rw [List.length_map]
        have e := congrArg List.length ez
        rw [List.length_map, List.length_take, people_len] at e
        exact small1000 (by omega)
      · have := k6.tup hp3
        rw [upd_ne (ne_of this hDt (by intro z; cases z))]
        exact this
      · rw [upd_same, List.map_append]
        rfl
      · have hlD : hl ≠ D := fun z => by rw [z, hD3] at hlN; cases hlN
        intro z hz
        rcases List.mem_append.mp hz with hz | hz
        · have hh := hz3 z hz
          obtain ⟨xs2, e1, e2⟩ := hh.lst
          refine ⟨?_, ⟨xs2, ?_, e2⟩, hh.ne⟩
          · have := k6.tup hh.pair
            rw [upd_ne (ne_of this hDt (by intro z; cases z))]
            exact this
          · rw [upd_ne hh.ne]
            exact k6.lst e1
        · rw [List.mem_singleton.mp hz]
          refine ⟨?_, ⟨xs, ?_, exs⟩, hlD⟩
          · show (upd _ D _) t = _
            rw [upd_ne (ne_of (o := .tup [vN p, .ref hl]) upd_same hDt (by intro z; cases z))]
            exact upd_same
          · show (upd _ D _) hl = _
            rw [upd_ne hlD]
            exact kt.lst hhl
      · rw [List.map_append, ez, take_snoc ep]
        rfl
    · obtain ⟨k3, hp3, zs, hD3, hz3, ez⟩ := h
      rw [List.length_map, List.take_length] at ez
      have nd : (zs.map (·.1)).Nodup := by rw [ez]; exact people_nodup n
      have hPr : ∀ zs : List (Nat × Addr × Addr), (∀ z ∈ zs, Hrd n arcs D H3 z) → Paired (fun p (kv : Key × V) => SqT K H3 p [kV kv.1, kv.2]) (zs.map fun z => z.2.1) (kvOf zs) := by
        intro zs
        induction zs with
        | nil => intro _; exact .nil
        | cons z zs ih => intro h; exact .cons (SqT.of (h z (by simp)).pair) (ih fun y hy => h y (by simp [hy]))
      refine ⟨D, zs.map (fun z : Nat × Addr × Addr => z.2.1), kvOf zs, rfl, SqL.of (by rw [List.map_map]; exact hD3), hPr zs hz3, fun d hd => ?_⟩
      rw [merge_new (kvOf zs) [] (fun _ _ => rfl) (kvOf_nodup nd), List.nil_append]
      have hd1 : H1 d = none := k3.live d hd
      -- the top
      refine ⟨d, .dK (kvOf zs), upd_same, trivial, fun od => ?_⟩
      rw [upd_upd]
      have kf : Kp H3 (upd H3 d (.frz od (.dK (kvOf zs)))) := Kp.new hd
      have kf1 := k3.trans kf
      refine ⟨.ref d, rfl, d, od, rfl, .inl ⟨kvOf zs, upd_same, fun D2 hD2 => ?_⟩⟩
      refine lc_it walk_keys (fun i H' => Kp (upd H3 d (.frz od (.dK (kvOf zs)))) H' ∧ H' D2 = some (.lst (vNs (((people n).take i).filter fun p => (heard n arcs p).length == n))))
        ⟨Kp.new hD2, upd_same⟩ (fun i H' _ h => h.1.at_ _ _ upd_same fun _ z => nomatch z) (fun i x H4 H5 hi h y => ?_) (fun H4 h => ?_)
      · obtain ⟨k4, hD4⟩ := h
        obtain ⟨rfl, kk, v, ekv, rfl⟩ := y
        rw [List.getElem?_map] at ekv
        cases ezi : zs[i]? with
        | none => rw [ezi] at ekv; cases ekv
        | some z =>
          rw [ezi] at ekv
          cases ekv
          have hzm := List.mem_of_getElem? ezi
          have ep : (people n)[i]? = some z.1 := by rw [← ez, List.getElem?_map, ezi]; rfl
          have hh := hz3 z hzm
          obtain ⟨xs, e1, e2⟩ := hh.lst
          have hd4 := k4.at_ _ _ upd_same (fun _ z => nomatch z)
          refine ⟨rfl, .ref d, rfl, vN z.1, rfl, d, .ref z.2.2, rfl, .inl ⟨kvOf zs, Sum.inl (z.1 : Int), .inr ⟨od, hd4⟩, rfl, (kvOf_val nd hzm).symm⟩, z.2.2, xs, rfl, .inl (SqL.of (k4.lst (kf.lst e1))), .ref a, rfl, a, _, 0, vN n, rfl, rfl, SqT.of (B1.web.kp (kf1.trans k4)).top, atI_nat (j := 0) rfl, rfl, _, rfl, ?_⟩
          rw [e2]
          by_cases c : (heard n arcs z.1).length = n
          · rw [decide_eq_true (show V.int ((heard n arcs z.1).length : Int) = V.int (n : Int) by rw [c])]
            refine iteT ⟨vN z.1, rfl, _, hD4, ?_, k4.put hD2, ?_⟩
            · rw [List.length_map]
              have := filter_len_le (fun p => (heard n arcs p).length == n) (people n) i
              rw [people_len] at this
              exact small1000 (by omega)
            · rw [upd_same, vNs_snoc, filter_yes ep (by simpa using c)]
          · rw [decide_eq_false (fun z => c (by have := V.int.inj z; omega))]
            refine iteF ⟨k4, ?_⟩
            rw [filter_no ep (by simpa using c)]
            exact hD4
      · obtain ⟨k4, hD4⟩ := h
        have el : (kvOf zs).length = n := by
          rw [List.length_map]
          have e := congrArg List.length ez
          rw [List.length_map, people_len] at e
          exact e
        rw [el, List.take_of_length_le (by rw [people_len]; exact Nat.le_refl _)] at hD4
        have hD4 : H4 D2 = some (.lst (vNs (winners n arcs))) := hD4
        refine ⟨k4.at_ _ _ upd_same (fun _ z => nomatch z), ?_⟩
        have hfr := k4.at_ _ _ (show (upd H3 d (.frz od (.dK (kvOf zs)))) d = some (.frz od (.dK (kvOf zs))) from upd_same) (fun _ z => nomatch z)
        have k5 : Kp H1 (upd H4 d (.dK (kvOf zs))) := (kf1.trans k4).put hd1
        have hD5 : (upd H4 d (.dK (kvOf zs))) D2 = some (.lst (vNs (winners n arcs))) := by
          rw [upd_ne (ne_of hD4 hfr (by intro z; cases z))]
          exact hD4
        have hrD : D2 ≠ r := (ne_of_none (kf1.lst hrow1) hD2).symm
        generalize upd H4 d (.dK (kvOf zs)) = H5 at k5 hD5
        have B5 := B1.kp k5
        -- the winners
        refine ⟨.ref a, rfl, n, arcs, a, b, ts, rfl, B5.web, hw, B5.t1, fun H6 l k6 hlN hl => ?_⟩
        refine ⟨.ref D2, rfl, D2, _, rfl, .inl ⟨SqL.of (k6.lst hD5), fun t ht => ?_⟩⟩
        have hwl : (vNs (winners n arcs)).length ≤ 1000 := by
          rw [List.length_map]
          have := List.length_filter_le (fun p => (heard n arcs p).length == n) (people n)
          rw [people_len] at this
          exact Nat.le_trans this (by omega)
        refine ⟨.ref l, .ref t, rfl, ⟨l, t, _, _, rfl, rfl, (Kp.new ht).tup hl, upd_same, rfl, hwl, fun i u v eu ev => ?_⟩, fun H7 k7 => ⟨true, rfl, iteF ?_⟩⟩
        · rw [eu] at ev
          cases ev
          obtain ⟨z, _, rfl, _⟩ := vNs_at eu
          exact ⟨(z : Int), rfl, rfl⟩
        have k57 := (k6.add (o := .tup (vNs (winners n arcs))) ht).trans k7
        have k17 := k5.trans k57
        have hD7 := k57.lst hD5
        have hrow7 := k17.lst hrow1
        -- the person
        refine ⟨.ref r, rfl, .ref a, rfl, a, _, 0, vN n, rfl, rfl, SqT.of (B1.kp k17).web.top, atI_nat (j := 0) rfl, r, sc, n, ns, ys1, rfl, hrow7, hR1, hSc1.kp k17, by omega, by omega, fun k8 ys8 hk0 hk1 hR8 => ?_⟩
        obtain ⟨q8, rfl⟩ : ∃ q8 : Nat, k8 = (q8 : Int) := ⟨k8.toNat, by omega⟩
        have hp : 1 + q8 ∈ people n := mem_people.mpr ⟨by omega, by omega⟩
        have B8 := (B1.kp k17).rput (ys' := ys8) hrow7
        have hD8 : (upd H7 r (.lst ys8)) D2 = some (.lst (vNs (winners n arcs))) := by
          rw [upd_ne hrD]
          exact hD7
        refine ⟨1, (q8 : Int), rfl, rfl, .ref a, rfl, vN (1 + q8), rfl, n, 1 + q8, arcs, a, b, ts, rfl, B8.web, hw, hp, B8.t1, fun hno H9 k9 => ?_, fun hyes H9 t9 k9 htN ht9 => ?_⟩
        · refine ⟨.non, rfl, vN (1 + q8), rfl, .ref D2, rfl, D2, _, rfl, .inl (SqL.of (k9.lst hD8)), rfl, flat_ns _, rfl, _, rfl, ite_no ?_ ?_⟩
          · rw [if_pos (show true = true from rfl), in_ns, decide_eq_false hno]
            decide
          · exact rD a b ts n (1 + q8) arcs hw _ _ _ _ _ _ _ _ _ _ _ _ _ _ _ _ H9 (B8.kp k9) (.inl rfl)
        · refine ⟨.ref t9, rfl, vN (1 + q8), rfl, .ref D2, rfl, D2, _, rfl, .inl (SqL.of (k9.lst hD8)), rfl, flat_ns _, rfl, _, rfl, ite_no ?_ ?_⟩
          · rw [if_pos (show true = true from rfl), in_ns, decide_eq_true hyes, decide_eq_false (show ¬ V.ref t9 = V.non from fun z => nomatch z)]
            decide
          · exact rD a b ts n (1 + q8) arcs hw _ _ _ _ _ _ _ _ _ _ _ _ _ _ _ _ H9 (B8.kp k9) (.inr ⟨hyes, t9, rfl, ht9⟩)
end BD
set_option maxRecDepth 100000
set_option maxHeartbeats 4000000
namespace BD
open PySem PySem.Spec PyProof.Rows L2 GxR BM
/-! ### what the top has written -/
structure Df (K : PySem.W.Frag) (mg : Str → Option Value) (x : Str) (st : Stmt) (ps : List Str) (f : Addr) (fd : FuncData) : Prop where
  fn : Fun K x x st f fd
  b : Binds K fd ps []
  g : mg x = some (.ref f)
structure DfC (K : PySem.W.Frag) (mg : Str → Option Value) (x : Str) (st : Stmt) (ps : List Str) (f : Addr) (fd : FuncData) (c : Addr) : Prop where
  fn : FunC K x x st f fd c
  b : Binds K fd ps []
  g : mg x = some (.ref f)
theorem df_mk {K : PySem.W.Frag} {mg : Str → Option Value} {h : Heap} {x : Str} {st : Stmt} {ps : List Str} {f : Addr} {od an : Option Addr} {sl : Array (Option Value)} {oc kV dc pm cd ct : Value} (X : K.In h) (G : h.Ns mainGlobals mg)
    (a : PySem.W.nsIn K mainGlobals x = some (some (.ref f))) (l : K.lookup f = some ⟨oc, od, .func (PySem.W.fnOf x x (defArgs st) (defBody st) (defScope st) .none kV dc pm an cd ct), sl⟩) (c : PySem.W.codeIn K cd x = true) (k : PySem.W.keepIn K (.ref f) = true)
    (hb : ∀ us : List Value, us.length = ps.length → bindArgs (PySem.W.fnOf x x (defArgs st) (defBody st) (defScope st) .none kV dc pm an cd ct) ⟨us, []⟩ = pure (ps.zip us)) : ∃ fd, Df K mg x st ps f fd :=
  ⟨_, fun_mk (st := st) l c k, .all hb, PySem.W.mg_of X G a⟩
theorem dfc_mk {K : PySem.W.Frag} {mg : Str → Option Value} {h : Heap} {x : Str} {st : Stmt} {ps : List Str} {f c : Addr} {od an : Option Addr} {sl : Array (Option Value)} {oc kV dc pm ct : Value} (X : K.In h) (G : h.Ns mainGlobals mg)
    (a : PySem.W.nsIn K mainGlobals x = some (some (.ref f))) (l : K.lookup f = some ⟨oc, od, .func (PySem.W.fnOf x x (defArgs st) (defBody st) (defScope st) .none kV dc pm an (.ref c) ct), sl⟩) (cc : PySem.W.codeIn K (.ref c) x = true) (k : PySem.W.keepIn K (.ref f) = true)
    (hb : ∀ us : List Value, us.length = ps.length → bindArgs (PySem.W.fnOf x x (defArgs st) (defBody st) (defScope st) .none kV dc pm an (.ref c) ct) ⟨us, []⟩ = pure (ps.zip us)) : ∃ fd, DfC K mg x st ps f fd c :=
  ⟨_, ⟨⟨oc, od, kV, dc, pm, an, ct, sl, rfl, l, cc⟩, k⟩, .all hb, PySem.W.mg_of X G a⟩
theorem trip0 : TriplesOk (#[] : Array Value).toList := trivial
theorem calls_mk {P : Program} {w : World} {K : PySem.W.Frag} {mg : Str → Option Value} {base : Heap} {T1 T2 T3 c1 c2 c3 f0 f1 f2 f3 f4 f5 f6 f7 f8 f9 f10 f11 f12 f13 f14 f15 f16 f17 f18 f19 f20 f21 f22 : Addr} {e0 e1 e2 e3 e4 e5 e6 e7 e8 e9 e10 e11 e12 e13 e14 e15 e16 e17 e18 e19 e20 e21 e22 : FuncData} (N : Names mg)
    (d0 : Df K mg "is_in" sIsIn ["value", "least", "most"] f0 e0)
    (d1 : DfC K mg "is_arc" sIsArc ["size", "value"] f1 e1 c1) (TB1 : TabB base mg c1 T1)
    (d2 : Df K mg "need_web" sNeedWeb ["web"] f2 e2)
    (d3 : Df K mg "need_person" sNeedPerson ["web", "person"] f3 e3)
    (d4 : Df K mg "people" sPeople ["web"] f4 e4)
    (d5 : Df K mg "hearers" sHearers ["web", "begin"] f5 e5)
    (d6 : Df K mg "winners_of" sWinnersOf ["web"] f6 e6)
    (d7 : Df K mg "winners" sWinners ["web"] f7 e7)
    (d8 : Df K mg "win_log" sWinLog ["web", "person"] f8 e8)
    (d9 : Df K mg "sources" sSources ["web", "person"] f9 e9)
    (d10 : DfC K mg "springs_of" sSpringsOf ["web"] f10 e10 c2) (TB2 : TabB base mg c2 T2)
    (d11 : Df K mg "springs" sSprings ["web"] f11 e11)
    (d12 : Df K mg "least_left" sLeastLeft ["web"] f12 e12)
    (d13 : DfC K mg "is_closed" sIsClosed ["web", "some"] f13 e13 c3) (TB3 : TabB base mg c3 T3)
    (d14 : Df K mg "all_sets" sAllSets ["web"] f14 e14)
    (d15 : Df K mg "closed_count" sClosedCount ["web"] f15 e15)
    (d16 : Df K mg "_law_taken" sTaken ["_law_row", "_law_many"] f16 e16)
    (d17 : Df K mg "_law_alike" sAlike ["_law_found", "_law_due"] f17 e17)
    (d18 : Df K mg "_law_web" sWeb ["_law_row", "_law_most"] f18 e18)
    (d19 : Df K mg "_law_taken_over" sTakenOver ["_law_web_here", "_law_some", "_law_index"] f19 e19)
    (d20 : Df K mg "_law_done" sDone ["_law_web_here", "_law_some", "_law_log_here"] f20 e20)
    (d21 : Df K mg "_law_people" sLPeople ["_law_web_here"] f21 e21)
    (d22 : Df K mg "_law_heard" sHeard ["_law_web_here", "_law_person"] f22 e22) : Calls P w K mg base T1 T2 T3 := by
  have GNW : FnOk P w K mg base CX0 6 f2 e2 ["web"] (spNeedWeb T1) := ok_needWeb N d2.fn d1.fn TB1 d1.b d1.g d0.fn d0.b d0.g
  have GNP : FnOk P w K mg base CX0 2 f3 e3 ["web", "person"] spNeedPerson := ok_needPerson N d3.fn d0.fn d0.b d0.g
  have GP : FnOk P w K mg base CX0 1 f4 e4 ["web"] spPeople := ok_people N d4.fn
  have GWO : FnOk P w K mg base CX0 2 f6 e6 ["web"] spWinnersOf := ok_winnersOf N d6.fn d4.fn d4.b d4.g d5.fn d5.b d5.g
  have GSO : FnOk P w K mg base CX0 2 f9 e9 ["web", "person"] spSources := ok_sources N d9.fn d4.fn d4.b d4.g d5.fn d5.b d5.g
  have GSP : FnOk P w K mg base CX0 6 f10 e10 ["web"] (spSpringsOf T2) := ok_springsOf N d10.fn TB2 GP d4.fn.kp d4.b d4.g GSO d9.fn.kp d9.b d9.g
  have GIC : FnOk P w K mg base CX0 4 f13 e13 ["web", "some"] (spIsClosed T3) := ok_isClosed N d13.fn TB3
  have GAS : FnOk P w K mg base CX0 2 f14 e14 ["web"] spAllSets := ok_allSets N d14.fn GP d4.fn.kp d4.b d4.g
  have A0 : FnOk P w K mg base CX0 1 f17 e17 ["_law_found", "_law_due"] (spAlike REq0) := ok_alike0 N d17.fn
  have A1 : FnOk P w K mg base CX0 2 f17 e17 ["_law_found", "_law_due"] (spAlike (REqT REq0)) := ok_alikeS N d17.fn stays0 A0 d17.b d17.g
  have A2 : FnOk P w K mg base CX0 3 f17 e17 ["_law_found", "_law_due"] (spAlike (REqT (REqT REq0))) := ok_alikeS N d17.fn (staysT stays0) A1 d17.b d17.g
  exact { al0 := ⟨⟨_, _, A0, d17.fn.kp, d17.b, d17.g⟩⟩, al1 := ⟨⟨_, _, A1, d17.fn.kp, d17.b, d17.g⟩⟩, al2 := ⟨⟨_, _, A2, d17.fn.kp, d17.b, d17.g⟩⟩, web := ⟨⟨_, _, ok_web N d18.fn d16.fn d16.b d16.g, d18.fn.kp, d18.b, d18.g⟩⟩, taken := ⟨⟨_, _, ok_taken N d16.fn, d16.fn.kp, d16.b, d16.g⟩⟩, done := ⟨⟨_, _, ok_done N d20.fn d19.fn d19.b d19.g, d20.fn.kp, d20.b, d20.g⟩⟩, ppl := ⟨⟨_, _, ok_lpeople N d21.fn, d21.fn.kp, d21.b, d21.g⟩⟩, heard := ⟨⟨_, _, ok_heard N d22.fn, d22.fn.kp, d22.b, d22.g⟩⟩, winners := ⟨⟨_, _, ok_winners N d7.fn GNW d2.fn.kp d2.b d2.g GWO d6.fn.kp d6.b d6.g, d7.fn.kp, d7.b, d7.g⟩⟩, winlog := ⟨⟨_, _, ok_winLog N d8.fn GNW d2.fn.kp d2.b d2.g GNP d3.fn.kp d3.b d3.g GWO d6.fn.kp d6.b d6.g, d8.fn.kp, d8.b, d8.g⟩⟩, springs := ⟨⟨_, _, ok_springs N d11.fn GNW d2.fn.kp d2.b d2.g GSP d10.fn.kp d10.b d10.g, d11.fn.kp, d11.b, d11.g⟩⟩, least := ⟨⟨_, _, ok_leastLeft N d12.fn GNW d2.fn.kp d2.b d2.g GSP d10.fn.kp d10.b d10.g, d12.fn.kp, d12.b, d12.g⟩⟩, ccount := ⟨⟨_, _, ok_closedCount N d15.fn GNW d2.fn.kp d2.b d2.g GAS d14.fn.kp d14.b d14.g GIC d13.fn.kp d13.b d13.g, d15.fn.kp, d15.b, d15.g⟩⟩ }
theorem tabB {base : Heap} {mg : Str → Option Value} {c T : Addr} (h : LamX.TabB base mg c T) : TabB base mg c T := ⟨h.code, h.bm, h.gP⟩
/-- the tables of the defs that hold a generator expression are empty at the law's start -/
def TabsOk (K : PySem.W.Frag) (h : Heap) : Prop := ∀ x ∈ (["is_arc", "springs_of", "is_closed"] : List Str), ∀ c T, PySem.W.tabIn K x = some (c, T) → PySem.W.CodeHd h c T ∧ h.get? T = some { cls := .none, data := .fields #[] }
theorem tab_mk {K : PySem.W.Frag} {x : Str} {f c P : Addr} {oc e : Value} {od dd : Option Addr} {fd : FuncData} {sl sl2 : Array (Option Value)} {vs : Array Value} (a : PySem.W.nsIn K mainGlobals x = some (some (.ref f))) (l : K.lookup f = some ⟨oc, od, .func fd, sl⟩) (hc : fd.code = .ref c)
    (u : K.lookup c = some ⟨e, dd, .fields vs, sl2⟩) (v : vs[11]? = some (.ref P)) : PySem.W.tabIn K x = some (c, P) := by
  unfold PySem.W.tabIn
  rw [a]
  simp only [l, hc, u, v]
theorem all_mk {l : PySem.W.OpenLaw} {w : World} {K : PySem.W.Frag} {h : Heap} {mg : Str → Option Value} {fa : Addr} (X : K.In h) (G : h.Ns mainGlobals mg) (hfa : mg "law" = some (.ref fa)) (TK : TabsOk K h)
    {f0 f1 f2 f3 f4 f5 f6 f7 f8 f9 f10 f11 f12 f13 f14 f15 f16 f17 f18 f19 f20 f21 f22 f23 c1 c2 c3 T1 T2 T3 : Addr} {od0 an0 od1 an1 od2 an2 od3 an3 od4 an4 od5 an5 od6 an6 od7 an7 od8 an8 od9 an9 od10 an10 od11 an11 od12 an12 od13 an13 od14 an14 od15 an15 od16 an16 od17 an17 od18 an18 od19 an19 od20 an20 od21 an21 od22 an22 od23 an23 : Option Addr} {sl0 sl1 sl2 sl3 sl4 sl5 sl6 sl7 sl8 sl9 sl10 sl11 sl12 sl13 sl14 sl15 sl16 sl17 sl18 sl19 sl20 sl21 sl22 sl23 : Array (Option Value)} {oc0 kV0 dc0 pm0 ct0 cd0 oc1 kV1 dc1 pm1 ct1 oc2 kV2 dc2 pm2 ct2 cd2 oc3 kV3 dc3 pm3 ct3 cd3 oc4 kV4 dc4 pm4 ct4 cd4 oc5 kV5 dc5 pm5 ct5 cd5 oc6 kV6 dc6 pm6 ct6 cd6 oc7 kV7 dc7 pm7 ct7 cd7 oc8 kV8 dc8 pm8 ct8 cd8 oc9 kV9 dc9 pm9 ct9 cd9 oc10 kV10 dc10 pm10 ct10 oc11 kV11 dc11 pm11 ct11 cd11 oc12 kV12 dc12 pm12 ct12 cd12 oc13 kV13 dc13 pm13 ct13 oc14 kV14 dc14 pm14 ct14 cd14 oc15 kV15 dc15 pm15 ct15 cd15 oc16 kV16 dc16 pm16 ct16 cd16 oc17 kV17 dc17 pm17 ct17 cd17 oc18 kV18 dc18 pm18 ct18 cd18 oc19 kV19 dc19 pm19 ct19 cd19 oc20 kV20 dc20 pm20 ct20 cd20 oc21 kV21 dc21 pm21 ct21 cd21 oc22 kV22 dc22 pm22 ct22 cd22 oc23 kV23 dc23 pm23 ct23 cd23 : Value} {tp ta : Tok} {ec1 ec2 ec3 : Value} {dc_1 dc_2 dc_3 : Option Addr} {vs1 vs2 vs3 : Array Value} {sc1 sc2 sc3 : Array (Option Value)}
    (a0 : PySem.W.nsIn K mainGlobals "is_in" = some (some (.ref f0))) (l0 : K.lookup f0 = some ⟨oc0, od0, .func (PySem.W.fnOf "is_in" "is_in" (defArgs sIsIn) (defBody sIsIn) (defScope sIsIn) .none kV0 dc0 pm0 an0 cd0 ct0), sl0⟩) (r0 : PySem.W.codeIn K cd0 "is_in" = true) (k0 : PySem.W.keepIn K (.ref f0) = true)
    (a1 : PySem.W.nsIn K mainGlobals "is_arc" = some (some (.ref f1))) (l1 : K.lookup f1 = some ⟨oc1, od1, .func (PySem.W.fnOf "is_arc" "is_arc" (defArgs sIsArc) (defBody sIsArc) (defScope sIsArc) .none kV1 dc1 pm1 an1 (.ref c1) ct1), sl1⟩) (r1 : PySem.W.codeIn K (.ref c1) "is_arc" = true) (k1 : PySem.W.keepIn K (.ref f1) = true)
    (a2 : PySem.W.nsIn K mainGlobals "need_web" = some (some (.ref f2))) (l2 : K.lookup f2 = some ⟨oc2, od2, .func (PySem.W.fnOf "need_web" "need_web" (defArgs sNeedWeb) (defBody sNeedWeb) (defScope sNeedWeb) .none kV2 dc2 pm2 an2 cd2 ct2), sl2⟩) (r2 : PySem.W.codeIn K cd2 "need_web" = true) (k2 : PySem.W.keepIn K (.ref f2) = true)
    (a3 : PySem.W.nsIn K mainGlobals "need_person" = some (some (.ref f3))) (l3 : K.lookup f3 = some ⟨oc3, od3, .func (PySem.W.fnOf "need_person" "need_person" (defArgs sNeedPerson) (defBody sNeedPerson) (defScope sNeedPerson) .none kV3 dc3 pm3 an3 cd3 ct3), sl3⟩) (r3 : PySem.W.codeIn K cd3 "need_person" = true) (k3 : PySem.W.keepIn K (.ref f3) = true)
    (a4 : PySem.W.nsIn K mainGlobals "people" = some (some (.ref f4))) (l4 : K.lookup f4 = some ⟨oc4, od4, .func (PySem.W.fnOf "people" "people" (defArgs sPeople) (defBody sPeople) (defScope sPeople) .none kV4 dc4 pm4 an4 cd4 ct4), sl4⟩) (r4 : PySem.W.codeIn K cd4 "people" = true) (k4 : PySem.W.keepIn K (.ref f4) = true)
    (a5 : PySem.W.nsIn K mainGlobals "hearers" = some (some (.ref f5))) (l5 : K.lookup f5 = some ⟨oc5, od5, .func (PySem.W.fnOf "hearers" "hearers" (defArgs sHearers) (defBody sHearers) (defScope sHearers) .none kV5 dc5 pm5 an5 cd5 ct5), sl5⟩) (r5 : PySem.W.codeIn K cd5 "hearers" = true) (k5 : PySem.W.keepIn K (.ref f5) = true)
    (a6 : PySem.W.nsIn K mainGlobals "winners_of" = some (some (.ref f6))) (l6 : K.lookup f6 = some ⟨oc6, od6, .func (PySem.W.fnOf "winners_of" "winners_of" (defArgs sWinnersOf) (defBody sWinnersOf) (defScope sWinnersOf) .none kV6 dc6 pm6 an6 cd6 ct6), sl6⟩) (r6 : PySem.W.codeIn K cd6 "winners_of" = true) (k6 : PySem.W.keepIn K (.ref f6) = true)
    (a7 : PySem.W.nsIn K mainGlobals "winners" = some (some (.ref f7))) (l7 : K.lookup f7 = some ⟨oc7, od7, .func (PySem.W.fnOf "winners" "winners" (defArgs sWinners) (defBody sWinners) (defScope sWinners) .none kV7 dc7 pm7 an7 cd7 ct7), sl7⟩) (r7 : PySem.W.codeIn K cd7 "winners" = true) (k7 : PySem.W.keepIn K (.ref f7) = true)
    (a8 : PySem.W.nsIn K mainGlobals "win_log" = some (some (.ref f8))) (l8 : K.lookup f8 = some ⟨oc8, od8, .func (PySem.W.fnOf "win_log" "win_log" (defArgs sWinLog) (defBody sWinLog) (defScope sWinLog) .none kV8 dc8 pm8 an8 cd8 ct8), sl8⟩) (r8 : PySem.W.codeIn K cd8 "win_log" = true) (k8 : PySem.W.keepIn K (.ref f8) = true)
    (a9 : PySem.W.nsIn K mainGlobals "sources" = some (some (.ref f9))) (l9 : K.lookup f9 = some ⟨oc9, od9, .func (PySem.W.fnOf "sources" "sources" (defArgs sSources) (defBody sSources) (defScope sSources) .none kV9 dc9 pm9 an9 cd9 ct9), sl9⟩) (r9 : PySem.W.codeIn K cd9 "sources" = true) (k9 : PySem.W.keepIn K (.ref f9) = true)
    (a10 : PySem.W.nsIn K mainGlobals "springs_of" = some (some (.ref f10))) (l10 : K.lookup f10 = some ⟨oc10, od10, .func (PySem.W.fnOf "springs_of" "springs_of" (defArgs sSpringsOf) (defBody sSpringsOf) (defScope sSpringsOf) .none kV10 dc10 pm10 an10 (.ref c2) ct10), sl10⟩) (r10 : PySem.W.codeIn K (.ref c2) "springs_of" = true) (k10 : PySem.W.keepIn K (.ref f10) = true)
    (a11 : PySem.W.nsIn K mainGlobals "springs" = some (some (.ref f11))) (l11 : K.lookup f11 = some ⟨oc11, od11, .func (PySem.W.fnOf "springs" "springs" (defArgs sSprings) (defBody sSprings) (defScope sSprings) .none kV11 dc11 pm11 an11 cd11 ct11), sl11⟩) (r11 : PySem.W.codeIn K cd11 "springs" = true) (k11 : PySem.W.keepIn K (.ref f11) = true)
    (a12 : PySem.W.nsIn K mainGlobals "least_left" = some (some (.ref f12))) (l12 : K.lookup f12 = some ⟨oc12, od12, .func (PySem.W.fnOf "least_left" "least_left" (defArgs sLeastLeft) (defBody sLeastLeft) (defScope sLeastLeft) .none kV12 dc12 pm12 an12 cd12 ct12), sl12⟩) (r12 : PySem.W.codeIn K cd12 "least_left" = true) (k12 : PySem.W.keepIn K (.ref f12) = true)
    (a13 : PySem.W.nsIn K mainGlobals "is_closed" = some (some (.ref f13))) (l13 : K.lookup f13 = some ⟨oc13, od13, .func (PySem.W.fnOf "is_closed" "is_closed" (defArgs sIsClosed) (defBody sIsClosed) (defScope sIsClosed) .none kV13 dc13 pm13 an13 (.ref c3) ct13), sl13⟩) (r13 : PySem.W.codeIn K (.ref c3) "is_closed" = true) (k13 : PySem.W.keepIn K (.ref f13) = true)
    (a14 : PySem.W.nsIn K mainGlobals "all_sets" = some (some (.ref f14))) (l14 : K.lookup f14 = some ⟨oc14, od14, .func (PySem.W.fnOf "all_sets" "all_sets" (defArgs sAllSets) (defBody sAllSets) (defScope sAllSets) .none kV14 dc14 pm14 an14 cd14 ct14), sl14⟩) (r14 : PySem.W.codeIn K cd14 "all_sets" = true) (k14 : PySem.W.keepIn K (.ref f14) = true)
    (a15 : PySem.W.nsIn K mainGlobals "closed_count" = some (some (.ref f15))) (l15 : K.lookup f15 = some ⟨oc15, od15, .func (PySem.W.fnOf "closed_count" "closed_count" (defArgs sClosedCount) (defBody sClosedCount) (defScope sClosedCount) .none kV15 dc15 pm15 an15 cd15 ct15), sl15⟩) (r15 : PySem.W.codeIn K cd15 "closed_count" = true) (k15 : PySem.W.keepIn K (.ref f15) = true)
    (a16 : PySem.W.nsIn K mainGlobals "_law_taken" = some (some (.ref f16))) (l16 : K.lookup f16 = some ⟨oc16, od16, .func (PySem.W.fnOf "_law_taken" "_law_taken" (defArgs sTaken) (defBody sTaken) (defScope sTaken) .none kV16 dc16 pm16 an16 cd16 ct16), sl16⟩) (r16 : PySem.W.codeIn K cd16 "_law_taken" = true) (k16 : PySem.W.keepIn K (.ref f16) = true)
    (a17 : PySem.W.nsIn K mainGlobals "_law_alike" = some (some (.ref f17))) (l17 : K.lookup f17 = some ⟨oc17, od17, .func (PySem.W.fnOf "_law_alike" "_law_alike" (defArgs sAlike) (defBody sAlike) (defScope sAlike) .none kV17 dc17 pm17 an17 cd17 ct17), sl17⟩) (r17 : PySem.W.codeIn K cd17 "_law_alike" = true) (k17 : PySem.W.keepIn K (.ref f17) = true)
    (a18 : PySem.W.nsIn K mainGlobals "_law_web" = some (some (.ref f18))) (l18 : K.lookup f18 = some ⟨oc18, od18, .func (PySem.W.fnOf "_law_web" "_law_web" (defArgs sWeb) (defBody sWeb) (defScope sWeb) .none kV18 dc18 pm18 an18 cd18 ct18), sl18⟩) (r18 : PySem.W.codeIn K cd18 "_law_web" = true) (k18 : PySem.W.keepIn K (.ref f18) = true)
    (a19 : PySem.W.nsIn K mainGlobals "_law_taken_over" = some (some (.ref f19))) (l19 : K.lookup f19 = some ⟨oc19, od19, .func (PySem.W.fnOf "_law_taken_over" "_law_taken_over" (defArgs sTakenOver) (defBody sTakenOver) (defScope sTakenOver) .none kV19 dc19 pm19 an19 cd19 ct19), sl19⟩) (r19 : PySem.W.codeIn K cd19 "_law_taken_over" = true) (k19 : PySem.W.keepIn K (.ref f19) = true)
    (a20 : PySem.W.nsIn K mainGlobals "_law_done" = some (some (.ref f20))) (l20 : K.lookup f20 = some ⟨oc20, od20, .func (PySem.W.fnOf "_law_done" "_law_done" (defArgs sDone) (defBody sDone) (defScope sDone) .none kV20 dc20 pm20 an20 cd20 ct20), sl20⟩) (r20 : PySem.W.codeIn K cd20 "_law_done" = true) (k20 : PySem.W.keepIn K (.ref f20) = true)
    (a21 : PySem.W.nsIn K mainGlobals "_law_people" = some (some (.ref f21))) (l21 : K.lookup f21 = some ⟨oc21, od21, .func (PySem.W.fnOf "_law_people" "_law_people" (defArgs sLPeople) (defBody sLPeople) (defScope sLPeople) .none kV21 dc21 pm21 an21 cd21 ct21), sl21⟩) (r21 : PySem.W.codeIn K cd21 "_law_people" = true) (k21 : PySem.W.keepIn K (.ref f21) = true)
    (a22 : PySem.W.nsIn K mainGlobals "_law_heard" = some (some (.ref f22))) (l22 : K.lookup f22 = some ⟨oc22, od22, .func (PySem.W.fnOf "_law_heard" "_law_heard" (defArgs sHeard) (defBody sHeard) (defScope sHeard) .none kV22 dc22 pm22 an22 cd22 ct22), sl22⟩) (r22 : PySem.W.codeIn K cd22 "_law_heard" = true) (k22 : PySem.W.keepIn K (.ref f22) = true)
    (a23 : PySem.W.nsIn K mainGlobals "law" = some (some (.ref f23))) (l23 : K.lookup f23 = some ⟨oc23, od23, .func (PySem.W.fnOf "law" "law" (defArgs sLaw) (defBody sLaw) (defScope sLaw) .none kV23 dc23 pm23 an23 cd23 ct23), sl23⟩) (r23 : PySem.W.codeIn K cd23 "law" = true) (k23 : PySem.W.keepIn K (.ref f23) = true)
    (u1 : K.lookup c1 = some ⟨ec1, dc_1, .fields vs1, sc1⟩) (v1 : vs1[11]? = some (.ref T1)) (n1 : K.lookup T1 = none)
    (u2 : K.lookup c2 = some ⟨ec2, dc_2, .fields vs2, sc2⟩) (v2 : vs2[11]? = some (.ref T2)) (n2 : K.lookup T2 = none)
    (u3 : K.lookup c3 = some ⟨ec3, dc_3, .fields vs3, sc3⟩) (v3 : vs3[11]? = some (.ref T3)) (n3 : K.lookup T3 = none)
    (z0 : PySem.W.nsIn K mainGlobals "isinstance" = some none)
    (z1 : PySem.W.nsIn K mainGlobals "tuple" = some none)
    (z2 : PySem.W.nsIn K mainGlobals "len" = some none)
    (z3 : PySem.W.nsIn K mainGlobals "all" = some none)
    (z4 : PySem.W.nsIn K mainGlobals "any" = some none)
    (z5 : PySem.W.nsIn K mainGlobals "int" = some none)
    (z6 : PySem.W.nsIn K mainGlobals "bool" = some none)
    (z7 : PySem.W.nsIn K mainGlobals "str" = some none)
    (z8 : PySem.W.nsIn K mainGlobals "list" = some none)
    (z9 : PySem.W.nsIn K mainGlobals "dict" = some none)
    (z10 : PySem.W.nsIn K mainGlobals "range" = some none)
    (z11 : PySem.W.nsIn K mainGlobals "enumerate" = some none)
    (z12 : PySem.W.nsIn K mainGlobals "sorted" = some none)
    (zp : PySem.W.nsIn K mainGlobals "MOST_PEOPLE" = some (some (.int 6 tp))) (za : PySem.W.nsIn K mainGlobals "MOST_ARCS" = some (some (.int 12 ta))) :
    LamX.LawAtS l w K CX0 8 63 "_law_script" mg fa h := by
  have e := hfa.symm.trans (PySem.W.mg_of X G a23)
  cases e
  have N : Names mg := { isi := PySem.W.mg_none_of X G z0, tuple := PySem.W.mg_none_of X G z1, len := PySem.W.mg_none_of X G z2, all := PySem.W.mg_none_of X G z3, any := PySem.W.mg_none_of X G z4, int := PySem.W.mg_none_of X G z5, bool := PySem.W.mg_none_of X G z6, str := PySem.W.mg_none_of X G z7, list := PySem.W.mg_none_of X G z8, dict := PySem.W.mg_none_of X G z9, range := PySem.W.mg_none_of X G z10, enumerate := PySem.W.mg_none_of X G z11, sorted := PySem.W.mg_none_of X G z12, people := ⟨_, PySem.W.mg_of X G zp⟩, arcs := ⟨_, PySem.W.mg_of X G za⟩ }
  obtain ⟨_, d0⟩ := df_mk (st := sIsIn) (ps := ["value", "least", "most"]) X G a0 l0 r0 k0 (fun us hl => match us, hl with | [_, _, _], _ => rfl)
  obtain ⟨_, d1⟩ := dfc_mk (st := sIsArc) (ps := ["size", "value"]) X G a1 l1 r1 k1 (fun us hl => match us, hl with | [_, _], _ => rfl)
  obtain ⟨_, d2⟩ := df_mk (st := sNeedWeb) (ps := ["web"]) X G a2 l2 r2 k2 (fun us hl => match us, hl with | [_], _ => rfl)
  obtain ⟨_, d3⟩ := df_mk (st := sNeedPerson) (ps := ["web", "person"]) X G a3 l3 r3 k3 (fun us hl => match us, hl with | [_, _], _ => rfl)
  obtain ⟨_, d4⟩ := df_mk (st := sPeople) (ps := ["web"]) X G a4 l4 r4 k4 (fun us hl => match us, hl with | [_], _ => rfl)
  obtain ⟨_, d5⟩ := df_mk (st := sHearers) (ps := ["web", "begin"]) X G a5 l5 r5 k5 (fun us hl => match us, hl with | [_, _], _ => rfl)
  obtain ⟨_, d6⟩ := df_mk (st := sWinnersOf) (ps := ["web"]) X G a6 l6 r6 k6 (fun us hl => match us, hl with | [_], _ => rfl)
  obtain ⟨_, d7⟩ := df_mk (st := sWinners) (ps := ["web"]) X G a7 l7 r7 k7 (fun us hl => match us, hl with | [_], _ => rfl)
  obtain ⟨_, d8⟩ := df_mk (st := sWinLog) (ps := ["web", "person"]) X G a8 l8 r8 k8 (fun us hl => match us, hl with | [_, _], _ => rfl)
  obtain ⟨_, d9⟩ := df_mk (st := sSources) (ps := ["web", "person"]) X G a9 l9 r9 k9 (fun us hl => match us, hl with | [_, _], _ => rfl)
  obtain ⟨_, d10⟩ := dfc_mk (st := sSpringsOf) (ps := ["web"]) X G a10 l10 r10 k10 (fun us hl => match us, hl with | [_], _ => rfl)
  obtain ⟨_, d11⟩ := df_mk (st := sSprings) (ps := ["web"]) X G a11 l11 r11 k11 (fun us hl => match us, hl with | [_], _ => rfl)
  obtain ⟨_, d12⟩ := df_mk (st := sLeastLeft) (ps := ["web"]) X G a12 l12 r12 k12 (fun us hl => match us, hl with | [_], _ => rfl)
  obtain ⟨_, d13⟩ := dfc_mk (st := sIsClosed) (ps := ["web", "some"]) X G a13 l13 r13 k13 (fun us hl => match us, hl with | [_, _], _ => rfl)
  obtain ⟨_, d14⟩ := df_mk (st := sAllSets) (ps := ["web"]) X G a14 l14 r14 k14 (fun us hl => match us, hl with | [_], _ => rfl)
  obtain ⟨_, d15⟩ := df_mk (st := sClosedCount) (ps := ["web"]) X G a15 l15 r15 k15 (fun us hl => match us, hl with | [_], _ => rfl)
  obtain ⟨_, d16⟩ := df_mk (st := sTaken) (ps := ["_law_row", "_law_many"]) X G a16 l16 r16 k16 (fun us hl => match us, hl with | [_, _], _ => rfl)
  obtain ⟨_, d17⟩ := df_mk (st := sAlike) (ps := ["_law_found", "_law_due"]) X G a17 l17 r17 k17 (fun us hl => match us, hl with | [_, _], _ => rfl)
  obtain ⟨_, d18⟩ := df_mk (st := sWeb) (ps := ["_law_row", "_law_most"]) X G a18 l18 r18 k18 (fun us hl => match us, hl with | [_, _], _ => rfl)
  obtain ⟨_, d19⟩ := df_mk (st := sTakenOver) (ps := ["_law_web_here", "_law_some", "_law_index"]) X G a19 l19 r19 k19 (fun us hl => match us, hl with | [_, _, _], _ => rfl)
  obtain ⟨_, d20⟩ := df_mk (st := sDone) (ps := ["_law_web_here", "_law_some", "_law_log_here"]) X G a20 l20 r20 k20 (fun us hl => match us, hl with | [_, _, _], _ => rfl)
  obtain ⟨_, d21⟩ := df_mk (st := sLPeople) (ps := ["_law_web_here"]) X G a21 l21 r21 k21 (fun us hl => match us, hl with | [_], _ => rfl)
  obtain ⟨_, d22⟩ := df_mk (st := sHeard) (ps := ["_law_web_here", "_law_person"]) X G a22 l22 r22 k22 (fun us hl => match us, hl with | [_, _], _ => rfl)
  obtain ⟨C1, H1⟩ := TK "is_arc" (by simp) _ _ (tab_mk a1 l1 rfl u1 v1)
  obtain ⟨C2, H2⟩ := TK "springs_of" (by simp) _ _ (tab_mk a10 l10 rfl u2 v2)
  obtain ⟨C3, H3⟩ := TK "is_closed" (by simp) _ _ (tab_mk a13 l13 rfl u3 v3)
  refine ⟨_, [(c1, T1), (c2, T2), (c3, T3)], spLaw K T1 T2 T3, ?_, ?_, ?_, fun s v => BindsTo.of_eq (fd := PySem.W.fnOf "law" "law" (defArgs sLaw) (defBody sLaw) (defScope sLaw) .none kV23 dc23 pm23 an23 cd23 ct23) rfl, ?_, fun base _ _ TB => ?_⟩
  · intro p hp
    rcases List.mem_cons.mp hp with rfl | hp
    · exact H1
    rcases List.mem_cons.mp hp with rfl | hp
    · exact H2
    rw [List.mem_singleton.mp hp]
    exact H3
  · intro p hp
    rcases List.mem_cons.mp hp with rfl | hp
    · exact n1
    rcases List.mem_cons.mp hp with rfl | hp
    · exact n2
    rw [List.mem_singleton.mp hp]
    exact n3
  · intro p hp
    rcases List.mem_cons.mp hp with rfl | hp
    · exact C1
    rcases List.mem_cons.mp hp with rfl | hp
    · exact C2
    rw [List.mem_singleton.mp hp]
    exact C3
  · intro H a ns _ _ hT hS
    have tg : ∀ p ∈ [(c1, T1), (c2, T2), (c3, T3)], TabG H p.2 := fun p hp => ⟨#[], hT p hp, trip0⟩
    exact ⟨a, ns, rfl, hS, tg (c1, T1) (by simp), tg (c2, T2) (by simp), tg (c3, T3) (by simp), fun _ => rfl⟩
  exact ok_law N (fun_mk (st := sLaw) l23 r23 k23) (calls_mk N d0 d1 (tabB (TB (c1, T1) (by simp))) d2 d3 d4 d5 d6 d7 d8 d9 d10 (tabB (TB (c2, T2) (by simp))) d11 d12 d13 (tabB (TB (c3, T3) (by simp))) d14 d15 d16 d17 d18 d19 d20 d21 d22)
theorem walk_tabs {l : PySem.W.OpenLaw} {n k : Nat} {q : Program} {loose : List Str} {XP : (Str → Option Value) → Heap → Prop} {YP : World → Heap → Prop} {d : DefRec} {K : Params → PySem.W.Frag} {CX : World → CXT} {x : Str}
    (hn : l.most = some n) (hn2 : n ≤ sizeLine) (hdf : d.params.defaults = []) (hr : Room k callerA) (hrec : ((["is_arc", "springs_of", "is_closed"] : List Str).all fun y => ((recsOf q).find? (fun e => e.name == y)).isSome) = true) (hY : ∀ (w : World) (h : Heap), YP w h → (K w.params).In h)
    (F : ∀ (w : World) (mg : Str → Option Value) (fa : Addr) (h : Heap), YP w h → (K w.params).In h → h.Ns mainGlobals mg → mg d.name = some (.ref fa) → TabsOk (K w.params) h → LamX.LawAtS l w (K w.params) (CX w) k n x mg fa h)
    (hCX : ∀ (w : World) (H : Hp) (s : Shared) (e : Value) (s' : Shared), CX w [] H s (fun _ _ _ => False) e s' → False) :
    PySem.W.WalkO q loose XP YP l.row.toRowW d [] (fun f vs => PySem.call f vs) := by
  refine Att.attach_callB hn hdf fun w s₀ s₁ mg mb fa o pm cd doc a vs ns G Y ho hd hcd hmg hobj hints hlen hbits hg => ?_
  have KX := hY w _ Y
  have own : TabsOk (K w.params) s₁.heap := fun y hy c T ht => by
    have hs := List.all_eq_true.mp hrec y hy
    obtain ⟨dd, hdd⟩ := Option.isSome_iff_exists.mp hs
    exact PySem.W.tab_of G.T KX hdd ht
  obtain ⟨fd, cs, sp, hT, nT, C, hb, hsp, hF⟩ := F w mg fa _ Y KX G.T.g hmg own
  exact LamX.law_callTs KX G.T.g G.T.b G.T.builtins G.T.nolimit hg hT nT C G.T.bmain hobj hints (Nat.le_trans hlen hn2) hr hF hb (fun H hH hS => hsp H a ns hlen hbits hH hS) fun H e s' => hCX w H s₁ e s'
end BD
open PySem PySem.W PyProof.Rows
set_option maxHeartbeats 0 in
theorem PySem.Challenge.cw_bellcopies_k18_whole_winners_holds : PySem.Challenge.rw_bellcopies_k18_whole_winners.Holds := by
  w_on; o_law; k_head; (case hw => w_witness2)
  k_fill
  refine BD.walk_tabs (l := PySem.Challenge.rw_bellcopies_k18_whole_winners) (n := 63) (k := 8) (x := "_law_script") (CX := fun _ => L2.CX0) rfl (by decide) rfl ⟨rfl, by decide, by decide⟩ (by decide +kernel) (fun w h Y => PySem.W.kIn_of Y) ?F (fun _ _ _ _ _ h => h)
  case F =>
    intro w mg fa h _ KX G hmg TK
    refine' BD.all_mk KX G hmg TK ?a0 ?l0 ?r0 ?k0 ?a1 ?l1 ?r1 ?k1 ?a2 ?l2 ?r2 ?k2 ?a3 ?l3 ?r3 ?k3 ?a4 ?l4 ?r4 ?k4 ?a5 ?l5 ?r5 ?k5 ?a6 ?l6 ?r6 ?k6 ?a7 ?l7 ?r7 ?k7 ?a8 ?l8 ?r8 ?k8 ?a9 ?l9 ?r9 ?k9 ?a10 ?l10 ?r10 ?k10 ?a11 ?l11 ?r11 ?k11 ?a12 ?l12 ?r12 ?k12 ?a13 ?l13 ?r13 ?k13 ?a14 ?l14 ?r14 ?k14 ?a15 ?l15 ?r15 ?k15 ?a16 ?l16 ?r16 ?k16 ?a17 ?l17 ?r17 ?k17 ?a18 ?l18 ?r18 ?k18 ?a19 ?l19 ?r19 ?k19 ?a20 ?l20 ?r20 ?k20 ?a21 ?l21 ?r21 ?k21 ?a22 ?l22 ?r22 ?k22 ?a23 ?l23 ?r23 ?k23 ?u1 ?v1 ?n1 ?u2 ?v2 ?n2 ?u3 ?v3 ?n3 ?z0 ?z1 ?z2 ?z3 ?z4 ?z5 ?z6 ?z7 ?z8 ?z9 ?z10 ?z11 ?z12 ?zp ?za
    (case a0 => k_is); (case l0 => k_is); (case r0 => k_is); (case k0 => k_is); (case a1 => k_is); (case l1 => k_is); (case r1 => k_is); (case k1 => k_is)
    (case a2 => k_is); (case l2 => k_is); (case r2 => k_is); (case k2 => k_is); (case a3 => k_is); (case l3 => k_is); (case r3 => k_is); (case k3 => k_is)
    (case a4 => k_is); (case l4 => k_is); (case r4 => k_is); (case k4 => k_is); (case a5 => k_is); (case l5 => k_is); (case r5 => k_is); (case k5 => k_is)
    (case a6 => k_is); (case l6 => k_is); (case r6 => k_is); (case k6 => k_is); (case a7 => k_is); (case l7 => k_is); (case r7 => k_is); (case k7 => k_is)
    (case a8 => k_is); (case l8 => k_is); (case r8 => k_is); (case k8 => k_is); (case a9 => k_is); (case l9 => k_is); (case r9 => k_is); (case k9 => k_is)
    (case a10 => k_is); (case l10 => k_is); (case r10 => k_is); (case k10 => k_is); (case a11 => k_is); (case l11 => k_is); (case r11 => k_is); (case k11 => k_is)
    (case a12 => k_is); (case l12 => k_is); (case r12 => k_is); (case k12 => k_is); (case a13 => k_is); (case l13 => k_is); (case r13 => k_is); (case k13 => k_is)
    (case a14 => k_is); (case l14 => k_is); (case r14 => k_is); (case k14 => k_is); (case a15 => k_is); (case l15 => k_is); (case r15 => k_is); (case k15 => k_is)
    (case a16 => k_is); (case l16 => k_is); (case r16 => k_is); (case k16 => k_is); (case a17 => k_is); (case l17 => k_is); (case r17 => k_is); (case k17 => k_is)
    (case a18 => k_is); (case l18 => k_is); (case r18 => k_is); (case k18 => k_is); (case a19 => k_is); (case l19 => k_is); (case r19 => k_is); (case k19 => k_is)
    (case a20 => k_is); (case l20 => k_is); (case r20 => k_is); (case k20 => k_is); (case a21 => k_is); (case l21 => k_is); (case r21 => k_is); (case k21 => k_is)
    (case a22 => k_is); (case l22 => k_is); (case r22 => k_is); (case k22 => k_is); (case a23 => k_is); (case l23 => k_is); (case r23 => k_is); (case k23 => k_is)
    (case u1 => k_is); (case v1 => rfl); (case n1 => kernel_rfl); (case u2 => k_is); (case v2 => rfl); (case n2 => kernel_rfl); (case u3 => k_is); (case v3 => rfl)
    (case n3 => kernel_rfl); (case z0 => k_is); (case z1 => k_is); (case z2 => k_is); (case z3 => k_is); (case z4 => k_is); (case z5 => k_is); (case z6 => k_is)
    (case z7 => k_is); (case z8 => k_is); (case z9 => k_is); (case z10 => k_is); (case z11 => k_is); (case z12 => k_is); (case zp => k_is); (case za => k_is)
