import PyProof.Rows.All
import Wide.All
import OpenK.AllK
import Wide.FinOn
import HandS.ForMost
import HandS.Defaults
import HandS.TupSets
import HandS.AnyAll
import HandS.IsInst
import HandS.Star
import HandS.Zip
import HandS.Walk
import HandS.TupAny
import HandS.SetFor
import HandS.SortInts
import HandS.Flow
import KE.GoesEnum
import KE.KStateDown
import Lean
import HandS.Exc
import HandS.Head0
import HandS.Head1
import HandS.Head2
import HandS.HeadHook1
import HandS.HeadHook2
import HandS.HeadHook3
import HandS.HeadHook4
import HandS.HeadWalk
import HandS.EndTab
import PySem.Challenge.RW_parksums_k91_across_differences_by_walk
set_option Elab.async false
set_option linter.all false
set_option maxRecDepth 100000
set_option maxHeartbeats 4000000
namespace K91
open PySem PySem.Spec PyProof.Rows L2
/-! ### the text -/
def top (i : Nat) : Stmt := PySem.Challenge.pw_parksums_k91_across_differences_by_walk.main.body.getD i (.Pass ⟨0, 0, 0, 0⟩)
abbrev s_isin : Stmt := top 9
abbrev n_isin : List Str := ["value", "least", "most"]
abbrev p_isin : List Str := ["value", "least", "most"]
theorem sc_isin : FnScope n_isin ["value", "least", "most"] (defScope s_isin) := ⟨rfl, rfl, rfl, by decide +kernel, rfl, by decide +kernel, by decide +kernel⟩
abbrev s_needsize : Stmt := top 10
abbrev n_needsize : List Str := ["size"]
abbrev p_needsize : List Str := ["size"]
theorem sc_needsize : FnScope n_needsize ["size"] (defScope s_needsize) := ⟨rfl, rfl, rfl, by decide +kernel, rfl, by decide +kernel, by decide +kernel⟩
abbrev s_arewishes : Stmt := top 11
abbrev n_arewishes : List Str := ["size", "value"]
abbrev p_arewishes : List Str := ["size", "value"]
theorem sc_arewishes : FnScope n_arewishes ["size", "value"] (defScope s_arewishes) := ⟨rfl, rfl, rfl, by decide +kernel, rfl, by decide +kernel, by decide +kernel⟩
abbrev s_needwishes : Stmt := top 12
abbrev n_needwishes : List Str := ["size", "wishes"]
abbrev p_needwishes : List Str := ["size", "wishes"]
theorem sc_needwishes : FnScope n_needwishes ["size", "wishes"] (defScope s_needwishes) := ⟨rfl, rfl, rfl, by decide +kernel, rfl, by decide +kernel, by decide +kernel⟩
abbrev s_isset : Stmt := top 13
abbrev n_isset : List Str := ["size", "value"]
abbrev p_isset : List Str := ["size", "value"]
theorem sc_isset : FnScope n_isset ["size", "value"] (defScope s_isset) := ⟨rfl, rfl, rfl, by decide +kernel, rfl, by decide +kernel, by decide +kernel⟩
abbrev s_needset : Stmt := top 14
abbrev n_needset : List Str := ["size", "one"]
abbrev p_needset : List Str := ["size", "one"]
theorem sc_needset : FnScope n_needset ["size", "one"] (defScope s_needset) := ⟨rfl, rfl, rfl, by decide +kernel, rfl, by decide +kernel, by decide +kernel⟩
abbrev s_spotsof : Stmt := top 15
abbrev n_spotsof : List Str := ["size", "wishes", "found", "taken", "wish"]
abbrev p_spotsof : List Str := ["size", "wishes"]
theorem sc_spotsof : FnScope n_spotsof ["size", "wishes"] (defScope s_spotsof) := ⟨rfl, rfl, rfl, by decide +kernel, rfl, by decide +kernel, by decide +kernel⟩
abbrev s_walksof : Stmt := top 16
abbrev n_walksof : List Str := ["size", "wishes", "spot", "wish"]
abbrev p_walksof : List Str := ["size", "wishes"]
theorem sc_walksof : FnScope n_walksof ["size", "wishes"] (defScope s_walksof) := ⟨rfl, rfl, rfl, by decide +kernel, rfl, by decide +kernel, by decide +kernel⟩
abbrev s_wholewalk : Stmt := top 17
abbrev n_wholewalk : List Str := ["size", "wishes"]
abbrev p_wholewalk : List Str := ["size", "wishes"]
theorem sc_wholewalk : FnScope n_wholewalk ["size", "wishes"] (defScope s_wholewalk) := ⟨rfl, rfl, rfl, by decide +kernel, rfl, by decide +kernel, by decide +kernel⟩
abbrev s_blocksof : Stmt := top 19
abbrev n_blocksof : List Str := ["size", "one", "found", "place", "length"]
abbrev p_blocksof : List Str := ["size", "one"]
theorem sc_blocksof : FnScope n_blocksof ["size", "one"] (defScope s_blocksof) := ⟨rfl, rfl, rfl, by decide +kernel, rfl, by decide +kernel, by decide +kernel⟩
abbrev s_needwhole : Stmt := top 21
abbrev n_needwhole : List Str := ["size", "whole"]
abbrev p_needwhole : List Str := ["size", "whole"]
theorem sc_needwhole : FnScope n_needwhole ["size", "whole"] (defScope s_needwhole) := ⟨rfl, rfl, rfl, by decide +kernel, rfl, by decide +kernel, by decide +kernel⟩
abbrev s_needterms : Stmt := top 22
abbrev n_needterms : List Str := ["size", "whole", "one"]
abbrev p_needterms : List Str := ["size", "whole", "one"]
theorem sc_needterms : FnScope n_needterms ["size", "whole", "one"] (defScope s_needterms) := ⟨rfl, rfl, rfl, by decide +kernel, rfl, by decide +kernel, by decide +kernel⟩
abbrev s_liesin : Stmt := top 23
abbrev n_liesin : List Str := ["whole", "one"]
abbrev p_liesin : List Str := ["whole", "one"]
theorem sc_liesin : FnScope n_liesin ["whole", "one"] (defScope s_liesin) := ⟨rfl, rfl, rfl, by decide +kernel, rfl, by decide +kernel, by decide +kernel⟩
abbrev s_blockplaces : Stmt := top 24
abbrev n_blockplaces : List Str := ["size", "whole", "first", "length", "k"]
abbrev p_blockplaces : List Str := ["size", "whole"]
theorem sc_blockplaces : FnScope n_blockplaces ["size", "whole"] (defScope s_blockplaces) := ⟨rfl, rfl, rfl, by decide +kernel, rfl, by decide +kernel, by decide +kernel⟩
abbrev s_gapranks : Stmt := top 25
abbrev n_gapranks : List Str := ["places", "one", "rank", "place"]
abbrev p_gapranks : List Str := ["places", "one"]
theorem sc_gapranks : FnScope n_gapranks ["places", "one"] (defScope s_gapranks) := ⟨rfl, rfl, rfl, by decide +kernel, rfl, by decide +kernel, by decide +kernel⟩
abbrev s_firstof : Stmt := top 26
abbrev n_firstof : List Str := ["size", "whole", "one", "found", "places"]
abbrev p_firstof : List Str := ["size", "whole", "one"]
theorem sc_firstof : FnScope n_firstof ["size", "whole", "one"] (defScope s_firstof) := ⟨rfl, rfl, rfl, by decide +kernel, rfl, by decide +kernel, by decide +kernel⟩
abbrev s_firstdifference : Stmt := top 27
abbrev n_firstdifference : List Str := ["size", "whole", "one"]
abbrev p_firstdifference : List Str := ["size", "whole", "one"]
theorem sc_firstdifference : FnScope n_firstdifference ["size", "whole", "one"] (defScope s_firstdifference) := ⟨rfl, rfl, rfl, by decide +kernel, rfl, by decide +kernel, by decide +kernel⟩
abbrev s_lastof : Stmt := top 28
abbrev n_lastof : List Str := ["whole", "one", "place"]
abbrev p_lastof : List Str := ["whole", "one"]
theorem sc_lastof : FnScope n_lastof ["whole", "one"] (defScope s_lastof) := ⟨rfl, rfl, rfl, by decide +kernel, rfl, by decide +kernel, by decide +kernel⟩
abbrev s_lastdifference : Stmt := top 29
abbrev n_lastdifference : List Str := ["size", "whole", "one"]
abbrev p_lastdifference : List Str := ["size", "whole", "one"]
theorem sc_lastdifference : FnScope n_lastdifference ["size", "whole", "one"] (defScope s_lastdifference) := ⟨rfl, rfl, rfl, by decide +kernel, rfl, by decide +kernel, by decide +kernel⟩
abbrev s_rankrows : Stmt := top 30
abbrev n_rankrows : List Str := ["gaps", "found", "gap", "more", "row", "rank"]
abbrev p_rankrows : List Str := ["gaps"]
theorem sc_rankrows : FnScope n_rankrows ["gaps"] (defScope s_rankrows) := ⟨rfl, rfl, rfl, by decide +kernel, rfl, by decide +kernel, by decide +kernel⟩
abbrev s_allof : Stmt := top 31
abbrev n_allof : List Str := ["size", "whole", "one", "found", "places", "more", "row", "some", "rank"]
abbrev p_allof : List Str := ["size", "whole", "one"]
theorem sc_allof : FnScope n_allof ["size", "whole", "one"] (defScope s_allof) := ⟨rfl, rfl, rfl, by decide +kernel, rfl, by decide +kernel, by decide +kernel⟩
abbrev s_differencecount : Stmt := top 32
abbrev n_differencecount : List Str := ["size", "whole", "one", "found", "places"]
abbrev p_differencecount : List Str := ["size", "whole", "one"]
theorem sc_differencecount : FnScope n_differencecount ["size", "whole", "one"] (defScope s_differencecount) := ⟨rfl, rfl, rfl, by decide +kernel, rfl, by decide +kernel, by decide +kernel⟩
abbrev s_differences : Stmt := top 33
abbrev n_differences : List Str := ["size", "whole", "one"]
abbrev p_differences : List Str := ["size", "whole", "one"]
theorem sc_differences : FnScope n_differences ["size", "whole", "one"] (defScope s_differences) := ⟨rfl, rfl, rfl, by decide +kernel, rfl, by decide +kernel, by decide +kernel⟩
abbrev s_differencewalks : Stmt := top 35
abbrev n_differencewalks : List Str := ["size", "whole", "one", "some", "part", "walk"]
abbrev p_differencewalks : List Str := ["size", "whole", "one"]
theorem sc_differencewalks : FnScope n_differencewalks ["size", "whole", "one"] (defScope s_differencewalks) := ⟨rfl, rfl, rfl, by decide +kernel, rfl, by decide +kernel, by decide +kernel⟩
abbrev s_Ltaken : Stmt := top 37
abbrev n_Ltaken : List Str := ["_law_row", "_law_many", "_law_found", "_law_cell"]
abbrev p_Ltaken : List Str := ["_law_row", "_law_many"]
theorem sc_Ltaken : FnScope n_Ltaken ["_law_row", "_law_many"] (defScope s_Ltaken) := ⟨rfl, rfl, rfl, by decide +kernel, rfl, by decide +kernel, by decide +kernel⟩
abbrev s_Lpick : Stmt := top 38
abbrev n_Lpick : List Str := ["_law_row", "_law_things"]
abbrev p_Lpick : List Str := ["_law_row", "_law_things"]
theorem sc_Lpick : FnScope n_Lpick ["_law_row", "_law_things"] (defScope s_Lpick) := ⟨rfl, rfl, rfl, by decide +kernel, rfl, by decide +kernel, by decide +kernel⟩
abbrev s_Lset : Stmt := top 43
abbrev n_Lset : List Str := ["_law_row", "_law_size", "_law_way", "_law_first", "_law_length", "_law_k", "_law_place"]
abbrev p_Lset : List Str := ["_law_row", "_law_size"]
theorem sc_Lset : FnScope n_Lset ["_law_row", "_law_size"] (defScope s_Lset) := ⟨rfl, rfl, rfl, by decide +kernel, rfl, by decide +kernel, by decide +kernel⟩
abbrev s_Lwhole : Stmt := top 45
abbrev n_Lwhole : List Str := ["_law_row", "_law_size", "_law_found"]
abbrev p_Lwhole : List Str := ["_law_row", "_law_size"]
theorem sc_Lwhole : FnScope n_Lwhole ["_law_row", "_law_size"] (defScope s_Lwhole) := ⟨rfl, rfl, rfl, by decide +kernel, rfl, by decide +kernel, by decide +kernel⟩
abbrev s_Lwithin : Stmt := top 46
abbrev n_Lwithin : List Str := ["_law_row", "_law_whole_here", "_law_place"]
abbrev p_Lwithin : List Str := ["_law_row", "_law_whole_here"]
theorem sc_Lwithin : FnScope n_Lwithin ["_law_row", "_law_whole_here"] (defScope s_Lwithin) := ⟨rfl, rfl, rfl, by decide +kernel, rfl, by decide +kernel, by decide +kernel⟩
abbrev s_Lranks : Stmt := top 48
abbrev n_Lranks : List Str := ["_law_size", "_law_whole_here", "_law_some", "_law_start", "_law_place"]
abbrev p_Lranks : List Str := ["_law_size", "_law_whole_here", "_law_some"]
theorem sc_Lranks : FnScope n_Lranks ["_law_size", "_law_whole_here", "_law_some"] (defScope s_Lranks) := ⟨rfl, rfl, rfl, by decide +kernel, rfl, by decide +kernel, by decide +kernel⟩
abbrev s_law : Stmt := top 49
abbrev n_law : List Str := ["_law_script", "_law_row", "_law_size", "_law_whole_here", "_law_one", "_law_counts", "_law_part", "_law_walk", "_law_ranks_here", "_law_low", "_law_outside", "_law_place"]
abbrev p_law : List Str := ["_law_script"]
theorem sc_law : FnScope n_law ["_law_script"] (defScope s_law) := ⟨rfl, rfl, rfl, by decide +kernel, rfl, by decide +kernel, by decide +kernel⟩
end K91
namespace K91
/-! ### plain functions over Nat lists: what the defs hand back -/
def mem (x : Nat) : List Nat → Bool
  | [] => false
  | y :: r => match Nat.beq x y with
    | true => true
    | false => mem x r
theorem mem_iff {x : Nat} : ∀ {l : List Nat}, mem x l = true ↔ x ∈ l
  | [] => by simp [mem]
  | y :: r => by
    unfold mem
    cases h : Nat.beq x y with
    | true =>
      have e : x = y := Nat.eq_of_beq_eq_true h
      simp [e]
    | false =>
      have e : x ≠ y := Nat.ne_of_beq_eq_false h
      simp [e, mem_iff (x := x) (l := r)]
theorem mem_false {x : Nat} {l : List Nat} : mem x l = false ↔ x ∉ l := by
  rw [← mem_iff]
  cases mem x l <;> simp
def nextF (n : Nat) (t : List Nat) : Nat → Nat → Nat
  | 0, w => w
  | f + 1, w => match mem w t with
    | true => nextF n t f ((w + 1) % n)
    | false => w
/-- the places taken by the cars, in their order; found: those taken so far -/
def spotsGo (n : Nat) : List Nat → List Nat → List Nat
  | _, [] => []
  | found, w :: r => nextF n found n w :: spotsGo n (nextF n found n w :: found) r
def spots (n : Nat) (ws : List Nat) : List Nat := spotsGo n [] ws
def walks (n : Nat) (ws : List Nat) : List Nat := ((spots n ws).zip ws).map fun p => (p.1 + n - p.2) % n
def lenGo (n : Nat) (one : List Nat) (p : Nat) : Nat → Nat → Nat
  | 0, l => l
  | f + 1, l => match mem ((p + l) % n) one with
    | true => lenGo n one p f (l + 1)
    | false => l
def blocksGo (n : Nat) (one : List Nat) : List Nat → List (Nat × Nat)
  | [] => []
  | p :: r => match mem ((p + n - 1) % n) one with
    | true => blocksGo n one r
    | false => (p, lenGo n one p n 1) :: blocksGo n one r
def blocks (n : Nat) (one : List Nat) : List (Nat × Nat) := blocksGo n one one
def placesOf (n : Nat) (b : Nat × Nat) : List Nat := (List.range b.2).map fun k => (b.1 + k) % n
def bplaces (n : Nat) (one : List Nat) : List (List Nat) := (blocks n one).map (placesOf n)
def gapsGo (one : List Nat) : Nat → List Nat → List Nat
  | _, [] => []
  | i, p :: r => match mem p one with
    | true => gapsGo one (i + 1) r
    | false => i :: gapsGo one (i + 1) r
def gaps (places one : List Nat) : List Nat := gapsGo one 0 places
/-- the least next rank behind a row -/
def nxt (row : List Nat) : Nat := match row.getLast? with
  | some x => x + 1
  | none => 0
def ext1 (g : Nat) (row : List Nat) : List (List Nat) := (List.range (g + 1 - nxt row)).map fun i => row ++ [nxt row + i]
def rowsGo : List Nat → List (List Nat) → List (List Nat)
  | [], found => found
  | g :: r, found => rowsGo r (found.flatMap (ext1 g))
def rrows (gs : List Nat) : List (List Nat) := rowsGo gs [[]]
def nth (l : List Nat) (i : Nat) : Nat := l.getD i 0
def add1 (places : List Nat) (found : List (List Nat)) (row : List Nat) : List (List Nat) := found.map fun some => some ++ row.map (nth places)
def allGo (one : List Nat) : List (List Nat) → List (List Nat) → List (List Nat)
  | [], found => found
  | ps :: r, found => allGo one r ((rrows (gaps ps one)).flatMap (add1 ps found))
def ins (x : Nat) : List Nat → List Nat
  | [] => [x]
  | y :: r => match Nat.ble x y with
    | true => x :: y :: r
    | false => y :: ins x r
def isort : List Nat → List Nat
  | [] => []
  | x :: r => ins x (isort r)
theorem ins_perm (x : Nat) : ∀ l : List Nat, (ins x l).Perm (x :: l)
  | [] => .refl _
  | y :: r => by
    unfold ins
    cases h : Nat.ble x y with
    | true => exact .refl _
    | false => exact ((ins_perm x r).cons y).trans (.swap x y r)
theorem isort_perm : ∀ l : List Nat, (isort l).Perm l
  | [] => .refl _
  | x :: r => (ins_perm x (isort r)).trans ((isort_perm r).cons x)
theorem ins_sorted (x : Nat) : ∀ {l : List Nat}, l.Pairwise (· ≤ ·) → (ins x l).Pairwise (· ≤ ·)
  | [], _ => List.pairwise_singleton _ _
  | y :: r, h => by
    unfold ins
    obtain ⟨h1, h2⟩ := List.pairwise_cons.mp h
    cases e : Nat.ble x y with
    | true =>
      have le : x ≤ y := Nat.le_of_ble_eq_true e
      refine List.pairwise_cons.mpr ⟨fun z hz => ?_, h⟩
      rcases List.mem_cons.mp hz with q | q
      · rw [q]; exact le
      · exact Nat.le_trans le (h1 z q)
    | false =>
      have le : y ≤ x := by
        rcases Nat.le_total x y with q | q
        · rw [Nat.ble_eq_true_of_le q] at e; cases e
        · exact q
      refine List.pairwise_cons.mpr ⟨fun z hz => ?_, ins_sorted x h2⟩
      rcases List.mem_cons.mp ((ins_perm x r).mem_iff.mp hz) with q | q
      · rw [q]; exact le
      · exact h1 z q
theorem isort_sorted : ∀ l : List Nat, (isort l).Pairwise (· ≤ ·)
  | [] => List.Pairwise.nil
  | x :: r => ins_sorted x (isort_sorted r)
theorem sorted_unique {l l' : List Nat} (p : l.Perm l') (h : l.Pairwise (· ≤ ·)) (h' : l'.Pairwise (· ≤ ·)) : l = l' :=
  p.eq_of_pairwise (fun a b _ _ h1 h2 => Nat.le_antisymm h1 h2) h h'
def firstD (n : Nat) (w one : List Nat) : List Nat := isort ((bplaces n w).flatMap fun ps => ps.take (gaps ps one).length)
def lastD (w one : List Nat) : List Nat := w.filter fun p => !mem p one
def allD (n : Nat) (w one : List Nat) : List (List Nat) := (allGo one (bplaces n w) [[]]).map isort
def countD (n : Nat) (w one : List Nat) : Nat := (bplaces n w).foldl (fun acc ps => acc * (rrows (gaps ps one)).length) 1
end K91
namespace K91
theorem nextF_t {n f w : Nat} {t : List Nat} (h : mem w t = true) : nextF n t (f + 1) w = nextF n t f ((w + 1) % n) := by
  show (match mem w t with | true => nextF n t f ((w + 1) % n) | false => w) = _
  rw [h]
theorem nextF_f {n f w : Nat} {t : List Nat} (h : mem w t = false) : nextF n t f w = w := by
  cases f with
  | zero => rfl
  | succ f =>
    show (match mem w t with | true => nextF n t f ((w + 1) % n) | false => w) = _
    rw [h]
theorem nextF_lt {n : Nat} (t : List Nat) (hn : 0 < n) : ∀ f w, w < n → nextF n t f w < n
  | 0, w, h => h
  | f + 1, w, h => by
    unfold nextF
    cases mem w t with
    | true => exact nextF_lt t hn f _ (Nat.mod_lt _ hn)
    | false => exact h
theorem nextF_free {n : Nat} (t : List Nat) (hn : 0 < n) : ∀ f w, w < n → (∃ k, k ≤ f ∧ mem ((w + k) % n) t = false) → mem (nextF n t f w) t = false
  | 0, w, h, ⟨k, hk, e⟩ => by
    have : k = 0 := Nat.le_zero.mp hk
    subst this
    rw [Nat.add_zero, Nat.mod_eq_of_lt h] at e
    exact e
  | f + 1, w, h, ⟨k, hk, e⟩ => by
    unfold nextF
    cases hm : mem w t with
    | false => exact hm
    | true =>
      refine nextF_free t hn f _ (Nat.mod_lt _ hn) ?_
      cases k with
      | zero =>
        rw [Nat.add_zero, Nat.mod_eq_of_lt h, hm] at e
        cases e
      | succ k =>
        refine ⟨k, Nat.le_of_succ_le_succ hk, ?_⟩
        rw [Nat.mod_add_mod, show w + 1 + k = w + (k + 1) by omega]
        exact e
theorem nextF_ok {n : Nat} {t : List Nat} {w : Nat} (ht : t.length < n) (hw : w < n) : mem (nextF n t n w) t = false := by
  have hn : 0 < n := Nat.lt_of_le_of_lt (Nat.zero_le _) hw
  obtain ⟨j, hj, hj2⟩ := L2.st_missing t n ht
  refine nextF_free t hn n w hw ⟨(j + n - w) % n, Nat.le_of_lt (Nat.mod_lt _ hn), ?_⟩
  have e : (w + (j + n - w) % n) % n = j := by
    rw [Nat.add_mod_mod, show w + (j + n - w) = j + n by omega, Nat.add_mod_right, Nat.mod_eq_of_lt hj]
  rw [e]
  exact mem_false.mpr hj2
theorem spotsGo_len (n : Nat) : ∀ (ls found : List Nat), (spotsGo n found ls).length = ls.length
  | [], _ => rfl
  | w :: r, found => by
    unfold spotsGo
    rw [List.length_cons, List.length_cons, spotsGo_len n r]
theorem spots_len (n : Nat) (ls : List Nat) : (spots n ls).length = ls.length := spotsGo_len n ls []
theorem spotsGo_get (n : Nat) : ∀ (ls found : List Nat) (i w : Nat), ls[i]? = some w → (spotsGo n found ls)[i]? = some (nextF n (((spotsGo n found ls).take i).reverse ++ found) n w)
  | [], _, _, _, h => by simp at h
  | x :: r, found, 0, w, h => by
    have e : x = w := Option.some.inj h
    subst e
    unfold spotsGo
    simp
  | x :: r, found, i + 1, w, h => by
    have h' : r[i]? = some w := h
    have ih := spotsGo_get n r (nextF n found n x :: found) i w h'
    unfold spotsGo
    show (spotsGo n (nextF n found n x :: found) r)[i]? = _
    rw [ih]
    simp
theorem spots_get {n : Nat} {ls : List Nat} {i w : Nat} (h : ls[i]? = some w) : (spots n ls)[i]? = some (nextF n ((spots n ls).take i).reverse n w) := by
  have q := spotsGo_get n ls [] i w h
  rw [List.append_nil] at q
  exact q
theorem spots_lt {n : Nat} {ls : List Nat} (hn : 0 < n) (hl : ∀ x ∈ ls, x < n) : ∀ x ∈ spots n ls, x < n := fun x hx => by
  obtain ⟨i, hi, e⟩ := List.getElem_of_mem hx
  rw [spots_len] at hi
  have q := spots_get (n := n) (List.getElem?_eq_getElem hi)
  rw [List.getElem?_eq_getElem (by rw [spots_len]; exact hi), e] at q
  rw [Option.some.inj q]
  exact nextF_lt _ hn _ _ (hl _ (List.getElem_mem hi))
theorem take_rev {l : List Nat} {i x : Nat} (h : l[i]? = some x) : (l.take (i + 1)).reverse = x :: (l.take i).reverse := by
  rw [List.take_add_one, h]
  simp
end K91
namespace K91
open PySem PySem.Spec PyProof.Rows L2
open GxR (TabB TabG Tabbed inv_tab sh_eta GenS keeps_refl keeps_tok)
/-! ### a def of the text with its code object -/
structure FunC (K : PySem.W.Frag) (x : Str) (st : Stmt) (f : Addr) (fd : FuncData) (cdv : Value) : Prop where
  ex : ∃ (oc : Value) (od : Option Addr) (kV doc pm : Value) (an : Option Addr) (ct : Value) (osl : Array (Option Value)),
    fd = PySem.W.fnOf x x (defArgs st) (defBody st) (defScope st) .none kV doc pm an cdv ct ∧ K.lookup f = some ⟨oc, od, .func fd, osl⟩ ∧ PySem.W.codeIn K cdv x = true
  kp : PySem.W.keepIn K (.ref f) = true
theorem FunC.of {K : PySem.W.Frag} {x : Str} {st : Stmt} {f : Addr} {fd : FuncData} (F : FunD K x x (defArgs st) (defBody st) (defScope st) [] [] f fd) : FunC K x st f fd fd.code := by
  obtain ⟨oc, od, dV, kV, doc, pm, an, cdv, ct, osl, rfl, lk, hcd, hD, hK⟩ := F.ex
  rcases hD with ⟨_, rfl⟩ | ⟨e, _⟩
  · exact ⟨⟨oc, od, kV, doc, pm, an, ct, osl, rfl, lk, hcd⟩, F.kp⟩
  · exact absurd rfl e
section
variable {P : Program} {w : World} {K : PySem.W.Frag} {mg : Str → Option Value} {base : Heap}
theorem FunC.ok {x : Str} {st : Stmt} {f : Addr} {fd : FuncData} {cdv : Value} {N ps : List Str} {k : Nat} {sp : Sp} (F : FunC K x st f fd cdv) (S : FnScope N ps (defScope st)) (len : ∀ vs H Q E, sp vs H Q E → vs.length = ps.length)
    (hbody : ∀ (A : Around) (outer : List Env) (s : Shared) (H : Hp) (vs : List V) (Q : VK) (E : XK), Room k (A.deeper (envOfC x (defScope st) s.heap.objs.size f cdv)) → sp vs H Q E →
      ∃ t, PSs (cxOf CX0 P w K mg base N x (defScope st) f cdv A outer s H E).nox (defBody st) t ∧ t { nx := fun _ H' => Q .non H', rt := Q } (start N vs) H) : FnOk P w K mg base CX0 (k + 1) f fd ps sp := by
  obtain ⟨oc, od, kV, doc, pm, an, ct, osl, rfl, lk, hcd⟩ := F.ex
  refine fn_of lk hcd S len fun A outer s H vs Q E hr hsp => ?_
  obtain ⟨t, h, q⟩ := hbody A outer s H vs Q E hr hsp
  exact ⟨t, h.nox, q⟩
theorem FunC.binds {x : Str} {st : Stmt} {f : Addr} {fd : FuncData} {cdv : Value} {ps : List Str} (F : FunC K x st f fd cdv)
    (h : ∀ (kV doc pm : Value) (an : Option Addr) (cdv ct : Value) (us : List Value), us.length = ps.length → bindArgs (PySem.W.fnOf x x (defArgs st) (defBody st) (defScope st) .none kV doc pm an cdv ct) ⟨us, []⟩ = pure (ps.zip us)) : Binds K fd ps [] := by
  obtain ⟨oc, od, kV, doc, pm, an, ct, osl, rfl, lk, hcd⟩ := F.ex
  exact .all (h kV doc pm an cdv ct)
theorem FunC.bindsTo {x : Str} {st : Stmt} {f : Addr} {fd : FuncData} {cdv : Value} {ps : List Str} (F : FunC K x st f fd cdv)
    (h : ∀ (kV doc pm : Value) (an : Option Addr) (cdv ct : Value) (us : List Value), us.length = ps.length → bindArgs (PySem.W.fnOf x x (defArgs st) (defBody st) (defScope st) .none kV doc pm an cdv ct) ⟨us, []⟩ = pure (ps.zip us)) (s : Shared) (us : List Value) (hl : us.length = ps.length) : BindsTo s fd ⟨us, []⟩ (ps.zip us) := by
  obtain ⟨oc, od, kV, doc, pm, an, ct, osl, rfl, lk, hcd⟩ := F.ex
  exact .of_eq (h kV doc pm an cdv ct us hl)
end
/-! ### is_in, exactly: nothing but new objects -/
def isinB (i a b : Int) : Bool := decide (a ≤ i) && decide (i ≤ b)
section
variable {P : Program} {w : World} {K : PySem.W.Frag} {mg : Str → Option Value} {base : Heap} {f : Addr} {fd : FuncData} {cdv : Value}
theorem ld_b {M : Model} {A : Around} {E : Value → Shared → Prop} {s : Shared} {env : Env} {x : Str} {u : Value} {pos : Pos} {Q : Value → Shared → Prop} (hM : Mod K mg base) (hk : ∀ b o, base.get? b = some o → s.heap.get? b = some o) (hkind : env.scope.kind = .function) (hgl : env.globals = mainGlobals) (hbl : env.builtins = builtinsNs)
    (hg : env.kindOf x = some .globalImplicit) (hm : mg x = none) (hv : bootBuiltins x = some u) (h : Q u s) (hn : x ≠ "__name__" := by decide) (hd : (x == ("__debug__" : Str)) = false := by decide) : wpAny M A (eval (.Name x pos) env) Q E s := by
  obtain ⟨mb, h1, h2⟩ := hM.blt
  exact Calls.Name_function_global hkind hg (Calls.loadGlobal_builtin (by rw [hgl]; exact hM.glob.keeps hk) hm (by rw [hbl]; exact h1.keeps hk) ((h2 x hn).trans hv) h) hd
theorem ld_g {M : Model} {A : Around} {E : Value → Shared → Prop} {s : Shared} {env : Env} {x : Str} {u : Value} {pos : Pos} {Q : Value → Shared → Prop} (hM : Mod K mg base) (hk : ∀ b o, base.get? b = some o → s.heap.get? b = some o) (hkind : env.scope.kind = .function) (hgl : env.globals = mainGlobals)
    (hg : env.kindOf x = some .globalImplicit) (hm : mg x = some u) (h : Q u s) (hd : (x == ("__debug__" : Str)) = false := by decide) : wpAny M A (eval (.Name x pos) env) Q E s :=
  Calls.Name_function_global hkind hg (Calls.loadGlobal_global (by rw [hgl]; exact hM.glob.keeps hk) hm h) hd
theorem isin_exact {A : Around} {s : Shared} {i a b : Int} {t1 t2 t3 : Tok} {args : Args} (F : FunC K "is_in" s_isin f fd cdv) (hM : Mod K mg base) (hk : ∀ b o, base.get? b = some o → s.heap.get? b = some o)
    (m1 : mg "isinstance" = none) (m2 : mg "int" = none) (m3 : mg "bool" = none) (hdp : A.depth < recursionLimit) (hb : BindsTo s fd args (n_isin.zip [Value.int i t1, .int a t2, .int b t3])) :
    codeAny (model P w) A (.call (.ref f) args) (fun r s' => r = .ok (.ret (.bool (isinB i a b))) ∧ Keeps s s') s := by
  obtain ⟨oc, od, kV, doc, pm, an, ct, osl, rfl, lk, hcd⟩ := F.ex
  have KX : K.In s.heap := hM.kin.keeps hk
  have lim : s.heap.NoLimit := hM.nolimit.keeps hk
  have S := sc_isin
  have hkind : ∀ y ∈ n_isin.zip [Value.int i t1, .int a t2, .int b t3], (defScope s_isin).names.lookup y.1 = some .local ∨ ((defScope s_isin).names.lookup y.1 = some .cell ∧ ((cellsFrom (s.heap.objs.size + 1) (defScope s_isin).names []).lookup y.1).isSome = true) := fun ⟨n, v⟩ hy => by
    rcases S.par n (List.of_mem_zip hy).1 with q | q
    · exact .inl q
    · exact .inr ⟨q, PySem.W.cellsFrom_some _ _ _ (.inl q)⟩
  refine codeAny_call_function hdp (KX _ _ lk) rfl S.co S.gen rfl (PySem.W.codeRec_of KX hcd) (hb _ _ _ _ ?_)
  refine wpAny_newFunctionEnv_cells S.kind hkind fun env he s1 x => ?_
  subst he
  refine ⟨lim.keeps x.toInCall.keep, codeAny_func ?_⟩
  have nd : n_isin.Nodup := by decide +kernel
  obtain ⟨h1, tk, e1, hk1⟩ := x.done
  have hns := x.toInCall.ns
  generalize hm : bindL _ _ _ = m at hns
  have mv : m "value" = some (.int i t1) := by rw [← hm]; exact bindL_get (i := 0) nd rfl rfl rfl
  have ml : m "least" = some (.int a t2) := by rw [← hm]; exact bindL_get (i := 1) nd rfl rfl rfl
  have mm : m "most" = some (.int b t3) := by rw [← hm]; exact bindL_get (i := 2) nd rfl rfl rfl
  have hk2 : ∀ b o, base.get? b = some o → s1.heap.get? b = some o := fun b o e => by rw [e1]; exact hk1 b o (hk b o e)
  have fin : ∀ (v : Bool) (t : Nat), v = isinB i a b → ((.ok (.ret (.bool v)) : Result) = .ok (.ret (.bool (isinB i a b))) ∧ Keeps s { s1 with toks := t }) := fun v t e => by
    subst e1
    exact ⟨by rw [e], h1, t, rfl, hk1⟩
  refine wpAny_execs_cons (wpAny_Return_some ?_)
  have K1 : K.In s1.heap := hM.kin.keeps hk2
  -- isinstance(value, int)
  refine BoolOp_and ?_
  refine wpAny_Call_Name_kw (ld_b (u := .builtin "isinstance") hM hk2 rfl rfl rfl rfl m1 (by decide +kernel) ?_)
  refine PyProof.Rows.callWith_builtin1 (Calls.spliced_cons (wpAny_Name (wpAny_loadName_local rfl rfl hns mv ?_) rfl)) rfl rfl
  refine Calls.spliced_cons (ld_b (u := .type "int") hM hk2 rfl rfl rfl rfl m2 (by decide +kernel) ?_)
  refine Calls.spliced_nil ?_
  refine PySem.W.kia_one (b := true) PySem.W.kitx_int K1 True.intro (kit_ty (by decide +kernel)) (fun z => nomatch z) fun tk1 => ?_
  refine wpAny_truthy_bool ?_
  show wpAny _ _ _ _ _ _
  -- not isinstance(value, bool)
  refine BoolOp_and ?_
  refine UnaryOp_ ?_
  refine wpAny_Call_Name_kw (ld_b (u := .builtin "isinstance") hM hk2 rfl rfl rfl rfl m1 (by decide +kernel) ?_)
  refine PyProof.Rows.callWith_builtin1 (Calls.spliced_cons (wpAny_Name (wpAny_loadName_local rfl rfl hns mv ?_) rfl)) rfl rfl
  refine Calls.spliced_cons (ld_b (u := .type "bool") hM hk2 rfl rfl rfl rfl m3 (by decide +kernel) ?_)
  refine Calls.spliced_nil ?_
  refine PySem.W.kia_one (b := false) PySem.W.kitx_int K1 True.intro (kit_ty (by decide +kernel)) (fun z => nomatch z) fun tk2 => ?_
  refine not_of (wpAny_truthy_bool ?_)
  refine wpAny_truthy_bool ?_
  show wpAny _ _ _ _ _ _
  -- least <= value <= most
  refine BoolOp_one ?_
  refine Compare_chain ?_
  refine wpAny_Name (wpAny_loadName_local rfl rfl hns ml ?_) rfl
  refine chain_link ?_
  refine wpAny_Name (wpAny_loadName_local rfl rfl hns mv ?_) rfl
  refine le_int ?_
  refine wpAny_truthy_bool ?_
  cases h9 : decide (a ≤ i) with
  | false =>
    refine fin false _ ?_
    unfold isinB
    rw [h9]
    rfl
  | true =>
    refine chain_last ?_
    refine wpAny_Name (wpAny_loadName_local rfl rfl hns mm ?_) rfl
    refine le_int ?_
    refine fin _ _ ?_
    unfold isinB
    rw [h9]
    rfl
end
/-! ### all(elt for x in ..): the source, the element -/
/-- iter(xv) makes one new iterator of n items -/
structure SrcOk (prog : Program) (w : World) (A : Around) (E : Value → Shared → Prop) (s1 : Shared) (xv : Value) (n : Nat) (Pf : Nat → Value → Prop) : Prop where
  go : ∀ (Q : Value → Shared → Prop), (∀ (o : Obj) (St : Nat → Heap → Prop) (fp : List Addr), (∀ A' : Around, A'.handled = none → Walks prog w A' s1.heap.objs.size fp [s1.heap.objs.size] n Pf St) → St 0 (s1.heap.push o) → (∀ b ∈ fp, b < (s1.heap.push o).objs.size) → (∀ b ∈ fp, b = s1.heap.objs.size ∨ ∃ o, s1.heap.get? b = some o ∧ o.cls = .type "tuple") →
    Q (.ref s1.heap.objs.size) { s1 with heap := s1.heap.push o }) → wpAny (model prog w) A (pyIter xv) Q E s1
theorem src_tup {prog : Program} {w : World} {A : Around} {E : Value → Shared → Prop} {s1 : Shared} {l : Addr} {items : Array Value} (hl : s1.heap.IsTuple l items) : SrcOk prog w A E s1 (.ref l) items.size (fun i v => items[i]? = some v) := by
  refine ⟨fun Q h => ?_⟩
  have hlt : l < s1.heap.objs.size := by obtain ⟨_, e, _⟩ := hl; exact Heap.lt_size e
  refine wpAny_pyIter_tuple hl (h _ _ [s1.heap.objs.size, l] (fun A' hA => Walks.tuple hA _ _ (Nat.ne_of_lt hlt) items) ⟨⟨_, Heap.get?_push_size _ rfl, rfl, rfl⟩, hl.push _⟩ (fun b hb => ?_) fun b hb => ?_)
  · rw [Heap.size_push]
    rcases List.mem_cons.mp hb with rfl | hb
    · exact Nat.lt_succ_self _
    · rcases List.mem_cons.mp hb with rfl | hb
      · exact Nat.lt_succ_of_lt hlt
      · cases hb
  · rcases List.mem_cons.mp hb with rfl | hb
    · exact .inl rfl
    · rcases List.mem_cons.mp hb with rfl | hb
      · obtain ⟨o, e, e2, _⟩ := hl
        exact .inr ⟨o, e, e2⟩
      · cases hb
theorem src_rng {prog : Program} {w : World} {A : Around} {E : Value → Shared → Prop} {s1 : Shared} {r : Addr} {a b c : Int} {t u v : Tok} {n : Nat} (hr : IsRange s1.heap r a b c t u v) (hs : Builtin.Range.small a b c = true) (hn : Builtin.Range.rangeSize a b c = (n : Int)) :
    SrcOk prog w A E s1 (.ref r) n (fun i v => i < n ∧ ∃ tk, v = .int (a + (i : Nat) * c) tk) := by
  refine ⟨fun Q h => ?_⟩
  refine wpAny_pyIter_range hr hs (h _ _ [s1.heap.objs.size] (fun A' hA => (Walks.range hA _ a c n).bound) (by show IsRangeIter _ _ _ _ _; rw [hn]; simpa using Heap.get?_push_size _ rfl) (fun b hb => ?_) fun b hb => ?_)
  · rw [Heap.size_push]
    rcases List.mem_cons.mp hb with rfl | hb
    · exact Nat.lt_succ_self _
    · cases hb
  · rcases List.mem_cons.mp hb with rfl | hb
    · exact .inl rfl
    · cases hb
/-- the element at the i-th item, in the generator's frame: a test; s1: the state in which the source was made -/
def EltG (X : Cx) (s1 : Shared) (P : Addr) (scope : Scope) (x : Str) (elt : Expr) (Pf : Nat → Value → Prop) (pb : Nat → Bool) : Prop :=
  ∀ (C : Addr) (code : Value) (A' : Around) (E' : Value → Shared → Prop) (i : Nat) (v : Value) (s₂ : Shared) (m₂ : Str → Option Value), A'.handled = none → A'.depth ≤ X.A.depth + 1 → A'.units ≤ X.A.units + 8 → Pf i v → s₂.heap.Ns C m₂ → m₂ x = some v →
    (∀ b o, b ≠ P → s1.heap.get? b = some o → s₂.heap.get? b = some o) →
    wpAny (model X.prog X.w) A' (eval elt (genEnv scope (cloFrom X.env.cells scope.names []) C code builtinsNs X.env)) (fun y s₃ => y = .bool (pb i) ∧ Keeps s₂ s₃) E' s₂
/-- the generator g over n items, ready to be walked -/
def ReadyG (X : Cx) (pins : List (Addr × Obj)) (σ : L2.St) (H1 : Hp) (P : Addr) (n : Nat) (pb : Nat → Bool) (g : Addr) (s5 : Shared) : Prop :=
  ∃ (fp wr : List Addr) (G : Array GenState → Array GenState → Prop) (F : Nat → Value → Prop) (St : Nat → Shared → Prop),
    WalksS X.prog X.w X.A.in1 g fp wr G n F St ∧ St 0 s5 ∧
    TruthOf X.prog X.w X.A.in1 F pb ∧
    ∀ s', Moved wr G s5 s' → ∃ H2, Tabbed P H1 H2 ∧ Inv X pins σ H2 s'
/-- the table at P behind a generator's code: as it was, or longer; all else stands -/
structure Grown (P : Addr) (t : Array Value) (h h' : Heap) (t' : Array Value) : Prop where
  but : Heap.ExtBut P h h'
  size : h.objs.size ≤ h'.objs.size
  at_ : h'.get? P = some { cls := .none, data := .fields t' }
  more : ∃ z, t' = t ++ z
  ok : TriplesOk t'.toList
theorem code_either {M : Model} {A : Around} {E : Value → Shared → Prop} {s : Shared} {env : Env} {c P : Addr} {t : Array Value} {pos : Pos} {qn : Str} {scope : Scope} {Q : Value → Shared → Prop}
    (hc : env.code = .ref c) (C : PySem.W.CodeHd s.heap c P) (hP : s.heap.get? P = some { cls := .none, data := .fields t }) (ht : TriplesOk t.toList)
    (q : ∀ (code : Value) (h' : Heap) (tk : Nat) (t' : Array Value), Grown P t s.heap h' t' → Q code { s with heap := h', toks := tk }) : wpAny M A (genexprCode env pos qn scope) Q E s := by
  cases f : codeAmong pos t.toList with
  | some u => exact wpAny_genexprCode_hit hc (C.code hP ht) f (q u s.heap s.toks t ⟨Heap.ExtBut.refl _ _, Nat.le_refl _, hP, ⟨#[], by simp⟩, ht⟩)
  | none => exact wpAny_genexprCodeX hc (C.code hP ht) (C.tab hP) f fun d h' tk x le lt isC _ tb _ => q _ h' tk _ ⟨x, Nat.le_trans le (Nat.le_of_lt lt), tb.2, ⟨_, rfl⟩, (let ⟨_, _, _, _, _, _, _, _, _, _, _, _, _, _, _, _, _, _, _, w, _⟩ := isC; w)⟩
theorem not_one {n b : Nat} (h : b < n) : b ∉ [n] := fun m => Nat.ne_of_lt h (List.mem_singleton.mp m)
theorem not_two {n m b : Nat} (h : b < n) (hm : n ≤ m) : b ∉ m :: [n] := fun z => by
  rcases List.mem_cons.mp z with e | e
  · exact Nat.ne_of_lt (Nat.lt_of_lt_of_le h hm) e
  · exact not_one h e
section
variable {X : Cx} {pins : List (Addr × Obj)} {σ : L2.St} {H : Hp} {s : Shared}
theorem statics_ne {H1 : Hp} {u : Shared} {P : Addr} {t : Array Value} (J : Inv X pins σ H1 u) (e : u.heap.get? P = some { cls := .none, data := .fields t }) : cStatics ≠ P ∧ cStatics < u.heap.objs.size := by
  obtain ⟨_, ns, _⟩ := J.nolimit
  refine ⟨fun z => ?_, ns.lt⟩
  obtain ⟨_, _, _, g, d, _⟩ := ns
  rw [z, e] at g
  cases g
  cases d
/-- all(..)'s generator: its source is read, its code found, its object made; what comes of it is told by R -/
theorem gen_all {c P : Addr} {elt iter : Expr} {x : Str} {px gpos : Pos} {scope : Scope} {te : TE} {k : Nat} {Q' : Value → Shared → Prop} {R : Nat → (Nat → Bool) → Hp → Prop}
    (hr : Room k X.A) (TB : TabB X.base X.mg c P) (hcode : X.env.code = .ref c) (S : GenS X.env scope x) (hi : PE X iter te)
    (hs : ∀ v, genFold iter X.env v = pure v) (I : Inv X pins σ H s)
    (h : te σ H fun v H1 => TabG H1 P ∧ ∃ (n : Nat) (Pf : Nat → Value → Prop) (pb : Nat → Bool), (∀ (pins : List (Addr × Obj)) (s1 : Shared) (u : Value), Inv X pins σ H1 s1 → RelV v u → SrcOk X.prog X.w X.A X.xe s1 u n Pf ∧ EltG X s1 P scope x elt Pf pb) ∧ R n pb H1)
    (hQ : ∀ n pb H1 g s5, R n pb H1 → ReadyG X pins σ H1 P n pb g s5 → Q' (.ref g) s5) :
    wpAny (model X.prog X.w) X.A (eval (.GeneratorExp elt [⟨.Name x px, iter, [], 0⟩] scope gpos) X.env) Q' X.xe s := by
  have depth := hr.dp
  refine wpAny_GeneratorExp_walksQD hr.hd S.co (closure_ok S.free) S.cell S.dot S.loc S.kind (by omega) (thn (hi.run pins s σ H _ I h) fun it u ⟨y, Hu, J, rel, tg, n, Pf, pb, both, told⟩ => ?_) hs
  obtain ⟨t, atP, tok⟩ := tg
  obtain ⟨src, each⟩ := both pins u it J rel
  have rawP := J.hok P _ atP
  obtain ⟨sP, sLt⟩ := statics_ne J rawP
  refine src.go _ fun o St fp W st0 inside kinds => ⟨J.nolimit.push o, code_either (t := t) hcode (TB.code.keeps fun b w e => Heap.get?_push_of_some o (J.bk b w e)) (Heap.get?_push_of_some _ rawP) tok fun code h3 tk t3 D => ?_⟩
  have grow : u.heap.objs.size < h3.objs.size := Nat.lt_of_lt_of_le (by rw [Heap.size_push]; exact Nat.lt_succ_self _) D.size
  have stands : ∀ b w, b ≠ P → u.heap.get? b = some w → h3.get? b = some w := fun b w ne e => D.but b w ne (Heap.get?_push_of_some o e)
  have offP : ∀ b ∈ fp, b ≠ P := fun b m z => by
    subst z
    rcases kinds b m with e | ⟨w, e, isT⟩
    · exact Nat.lt_irrefl _ (e ▸ Heap.lt_size rawP)
    · have := rawP.symm.trans e
      cases this
      cases isT
  obtain ⟨_, _, b1, b2, b3, b4, b5, b6, b7, b8⟩ := TB.bm
  have globals3 : h3.Ns X.env.globals X.mg := by
    rw [J.ok.glob]
    exact ((J.mod.glob.keeps J.bk).push o).extBut D.but TB.gP
  refine wpAny_builtinsFor globals3 b1 b2 (stands _ _ b4 (J.bk _ _ b5)) b6 b7 b8 ⟨_, fp, [u.heap.objs.size], n, Pf, St, fun _ => true, fun i v => v = .bool (pb i), rfl, W, (W X.A hr.hd).frame _ _ _ st0 fun b m w e => D.but b w (offP b m) e, fun b m => Nat.lt_of_lt_of_le (inside b m) D.size, (J.nolimit.push o).extBut D.but sP, not_one sLt, fun href keep => ⟨fun _ _ _ _ _ _ _ _ _ _ _ _ _ => ?_, fun A' E' i v s' m' a1 a2 a3 pf _ nsC mx kp => ?_⟩, fun g h5 tk5 gs bare _ _ keep5 W5 gen => ?_⟩
  · simp only [List.forIn_nil]
    exact wpAny_pure ⟨rfl, keeps_refl _⟩
  · refine each h3.objs.size code A' E' i v s' m' a1 a2 a3 pf nsC mx fun b w ne e => ?_
    have lt := Heap.lt_size e
    exact kp b (List.mem_range.mpr (Nat.lt_trans lt grow)) (not_one lt) w (keep b w (stands b w ne e))
  · simp only [GxR.passing_true, List.length_range] at W5
    refine hQ n pb Hu g _ told ⟨_, _, _, _, _, W5.in4_1, gen, fun j v sj Qj Ej hv hq => ?_, fun s' mv => ?_⟩
    · obtain ⟨i, gi, rfl⟩ := hv
      have ij : i = j := by
        obtain ⟨_, e⟩ := List.getElem?_eq_some_iff.mp gi
        rw [← e, List.getElem_range]
      rw [ij]
      exact wpAny_truthy_bool hq
    · obtain ⟨z, ez⟩ := D.more
      have off : ∀ b w, u.heap.get? b = some w → b ∉ h3.objs.size :: [u.heap.objs.size] := fun b w e => not_two (Heap.lt_size e) (Nat.le_of_lt grow)
      have gotP : s'.heap.get? P = some { cls := .none, data := .fields (t ++ z) } := by
        rw [← ez]
        exact mv.heap P _ (off P _ rawP) (keep5 P _ D.at_)
      have all := inv_tab (more := z) (h' := s'.heap) (g' := s'.gens) (d' := s'.drawn) (t' := s'.toks) J atP (fun b w ne e => mv.heap b w (off b w e) (keep5 b w (stands b w ne e))) gotP (AllBare.movedS (J.bare.push bare) mv)
      rw [sh_eta u s' mv.os] at all
      exact ⟨_, ⟨⟨_, upd_same, by rw [← ez]; exact D.ok⟩, fun b ne => upd_ne ne⟩, all⟩
end
end K91
namespace K91
open PySem PySem.Spec PyProof.Rows L2
open GxR (TabB TabG Tabbed inv_tab sh_eta GenS keeps_refl keeps_tok)
section
variable {X : Cx} {pins : List (Addr × Obj)} {σ : L2.St} {H : Hp} {s s1 s2 : Shared} {P a : Addr}
theorem tab_obj (I : Inv X pins σ H s) (T : TabG H P) : ∃ ps, s.heap.get? P = some { cls := .none, data := .fields ps } := by
  obtain ⟨ps, hP, _⟩ := T
  exact ⟨ps, I.hok P _ hP⟩
theorem base_ne (I : Inv X pins σ H s) (T : TabG H P) {b : Addr} {o : Obj} (e : X.base.get? b = some o) : b ≠ P := fun z => by
  obtain ⟨ps, hP, _⟩ := T
  have q := (I.bs b o e).2
  rw [z, hP] at q
  cases q
theorem tup_stays (I : Inv X pins σ H s1) (T : TabG H P) (hk : ∀ b o, b ≠ P → s1.heap.get? b = some o → s2.heap.get? b = some o) {its : Array Value} (t : IsTup s1.heap a its) : IsTup s2.heap a its := by
  obtain ⟨o, e, c, r⟩ := t
  refine ⟨o, hk a o (fun z => ?_) e, c, r⟩
  obtain ⟨ps, hP⟩ := tab_obj I T
  rw [z, hP] at e
  cases e
  cases c
theorem cell_stays (I : Inv X pins σ H s1) (T : TabG H P) (hk : ∀ b o, b ≠ P → s1.heap.get? b = some o → s2.heap.get? b = some o) {c : Addr} {v : Option Value} (t : s1.heap.IsCell c v) : s2.heap.IsCell c v := by
  obtain ⟨o, e, d⟩ := t
  refine ⟨o, hk c o (fun z => ?_) e, d⟩
  obtain ⟨ps, hP⟩ := tab_obj I T
  rw [z, hP] at e
  cases e
  cases d
/-- a captured name's cell -/
theorem cap {i : Nat} {x : Str} {v : V} (I : Inv X pins σ H s) (hN : X.N[i]? = some x) (hσ : σ[i]? = some (some v)) (hc : X.env.scope.names.lookup x = some .cell) : ∃ c u, X.env.cells.lookup x = some c ∧ RelV v u ∧ s.heap.IsCell c (some u) := by
  obtain ⟨m, hn, hl⟩ := I.loc
  obtain ⟨u, r, l⟩ := hl i x v hN hσ (.inr (.inl hc))
  rcases l with ⟨hk, _⟩ | ⟨_, c, h1, h2⟩
  · have hk : X.env.scope.names.lookup x = some .local := hk
    rw [hc] at hk
    cases hk
  · exact ⟨c, u, h1, r, h2⟩
/-- in the generator's frame -/
theorem ld_free {M : Model} {A : Around} {E : Value → Shared → Prop} {scope : Scope} {x : Str} {C : Addr} {code u : Value} {env : Env} {c : Addr} {pos : Pos} {Q : Value → Shared → Prop} (hk : scope.kind = .function) (hl : scope.names.lookup x = some .free)
    (hclo : ∀ cells, (cloFrom cells scope.names []).lookup x = some ((cells.lookup x).getD 0)) (hc : env.cells.lookup x = some c) (hv : s.heap.IsCell c (some u)) (h : Q u s) (hd : (x == ("__debug__" : Str)) = false := by decide) (hcd : (x == ("__classdict__" : Str)) = false := by decide) :
    wpAny M A (eval (.Name x pos) (genEnv scope (cloFrom env.cells scope.names []) C code builtinsNs env)) Q E s := by
  refine wpAny_Name (wpAny_loadName_free (c := c) hk hl ?_ hv h hcd) hd
  show (cloFrom env.cells scope.names []).lookup x = some c
  rw [hclo, hc]
  rfl
theorem ld_loc {M : Model} {A : Around} {E : Value → Shared → Prop} {scope : Scope} {x : Str} {C : Addr} {code u : Value} {env : Env} {m : Str → Option Value} {pos : Pos} {Q : Value → Shared → Prop} (hk : scope.kind = .function) (hl : scope.names.lookup x = some .local)
    (hn : s.heap.Ns C m) (hm : m x = some u) (h : Q u s) (hd : (x == ("__debug__" : Str)) = false := by decide) :
    wpAny M A (eval (.Name x pos) (genEnv scope (cloFrom env.cells scope.names []) C code builtinsNs env)) Q E s :=
  wpAny_Name (wpAny_loadName_local hk hl hn hm h) hd
theorem spl_cons {M : Model} {A : Around} {E : Value → Shared → Prop} {e : Expr} {es : List Expr} {env : Env} {pos : Pos} {Q : List Value → Shared → Prop} (hs : starEach (e :: es) env = (false, eval e env) :: starEach es env)
    (h : wpAny M A (eval e env) (fun v s1 => wpAny M A (spliced (backTo pos (starEach es env))) (fun vs s2 => Q (v :: vs) s2) E s1) E s) : wpAny M A (spliced (backTo pos (starEach (e :: es) env))) Q E s := by
  rw [hs]
  exact Calls.spliced_cons h
theorem spl_nil {M : Model} {A : Around} {E : Value → Shared → Prop} {env : Env} {pos : Pos} {Q : List Value → Shared → Prop} (h : Q [] s) : wpAny M A (spliced (backTo pos (starEach [] env))) Q E s := Calls.spliced_nil h
/-! ### is_in(one, 0, size - 1) -/
theorem elt_isin {k : Nat} {f : Addr} {fd : FuncData} {cdv : Value} {scope : Scope} {n : Int} {p1 p2 p3 p4 p5 p6 p7 : Pos} {j1 j2 : Nat} {Pf : Nat → Value → Prop} {pb : Nat → Bool} (hr : Room (k + 1) X.A) (I : Inv X pins σ H s1) (T : TabG H P)
    (F : FunC X.K "is_in" s_isin f fd cdv) (gF : X.mg "is_in" = some (.ref f)) (m1 : X.mg "isinstance" = none) (m2 : X.mg "int" = none) (m3 : X.mg "bool" = none)
    (hk : scope.kind = .function) (ho : scope.names.lookup ("one" : Str) = some .local) (hz : scope.names.lookup ("size" : Str) = some .free) (hi : scope.names.lookup ("is_in" : Str) = some .globalImplicit) (hclo : ∀ cells, (cloFrom cells scope.names []).lookup ("size" : Str) = some ((cells.lookup ("size" : Str)).getD 0))
    (hN : X.N[0]? = some ("size" : Str)) (hσ : σ[0]? = some (some (.int n))) (hc : X.env.scope.names.lookup ("size" : Str) = some .cell)
    (hP : ∀ i v, Pf i v → ∃ z t, v = .int z t ∧ pb i = isinB z 0 (n - 1)) :
    EltG X s1 P scope "one" (.Call (.Name "is_in" p1) [.Name "one" p2, .Constant (.int 0) j1 p3, .BinOp (.Name "size" p4) .Sub (.Constant (.int 1) j2 p5) p6] [] p7) Pf pb := by
  intro C code A' E' i v s₂ m₂ hA hD hU hPv hn hm hkp
  obtain ⟨z, t, rfl, eb⟩ := hP i v hPv
  obtain ⟨c, u, hc1, ru, hc2⟩ := cap I hN hσ hc
  obtain ⟨tu, rfl⟩ := ru
  have hb : ∀ b o, X.base.get? b = some o → s₂.heap.get? b = some o := fun b o e => hkp b o (base_ne I T e) (I.bk b o e)
  refine wpAny_Call_Name_kw (ld_g I.mod hb hk I.ok.glob hi gF ?_)
  have hclo2 : s₂.heap.IsCell c (some (.int n tu)) := cell_stays I T hkp hc2
  refine PySem.W.callWith_K (h₀ := X.base) I.ok.mod.kin F.kp ?_ rfl rfl
  refine spl_cons rfl (ld_loc hk ho hn hm ?_)
  refine spl_cons rfl (wpAny_Constant_int ?_)
  refine spl_cons rfl (wpAny_BinOp ?_)
  refine ld_free (c := c) hk hz hclo hc1 hclo2 ?_
  refine wpAny_Constant_int ?_
  refine sub_int ?_
  refine spl_nil ⟨I.mod.kin.keeps hb, ?_⟩
  refine wpAny_call (codeAny_mono (isin_exact F I.mod hb m1 m2 m3 (by have := hr.dp; omega) (F.bindsTo (ps := n_isin) (fun _ _ _ _ _ _ us hl => match us, hl with | [_, _, _], _ => rfl) _ _ rfl)) fun r s' hq => ?_)
  obtain ⟨rfl, h9, tk, rfl, hk9⟩ := hq
  exact ⟨by rw [eb], h9, tk, rfl, hk9⟩
/-! ### place in whole -/
theorem elt_in {scope : Scope} {xs : List V} {i0 : Nat} {x y : Str} {p2 p3 p4 : Pos} {Pf : Nat → Value → Prop} {pb : Nat → Bool} (I : Inv X pins σ H s1) (T : TabG H P)
    (hk : scope.kind = .function) (ho : scope.names.lookup x = some .local) (hz : scope.names.lookup y = some .free) (hclo : ∀ cells, (cloFrom cells scope.names []).lookup y = some ((cells.lookup y).getD 0))
    (hN : X.N[i0]? = some y) (hσ : σ[i0]? = some (some (.ref a))) (hc : X.env.scope.names.lookup y = some .cell) (ha : H a = some (.tup xs)) (fs : xs.all flatV = true)
    (hP : ∀ i v, Pf i v → ∃ z, RelV z v ∧ flatV z = true ∧ pb i = inV z xs) (hd : (x == ("__debug__" : Str)) = false := by decide) (hd2 : (y == ("__debug__" : Str)) = false := by decide) (hcd : (y == ("__classdict__" : Str)) = false := by decide) :
    EltG X s1 P scope x (.Compare (.Name x p2) [.In] [.Name y p3] p4) Pf pb := by
  intro C code A' E' i v s₂ m₂ hA hD hU hPv hn hm hkp
  obtain ⟨z, rz, fz, eb⟩ := hP i v hPv
  obtain ⟨c, u, hc1, ru, hc2⟩ := cap I hN hσ hc
  cases ru
  have hclo2 : s₂.heap.IsCell c (some (.ref a)) := cell_stays I T hkp hc2
  obtain ⟨its, r, pl, hz2⟩ := I.tuple (SqT.of ha)
  have pl2 := tup_stays I T hkp pl
  refine wpAny_Compare1 ?_ rfl
  refine ld_loc hk ho hn hm ?_ hd
  refine ld_free (c := c) hk hz hclo hc1 hclo2 ?_ hd2 hcd
  refine SeqAt.in_tupleAt (eqU z) pl2 (fun w hw => mem_eqAt rz fz r fs w (by simpa using hw)) ⟨?_, keeps_refl _⟩
  rw [show its.toArray.any (eqU z) = its.any (eqU z) by simp, any_eqU r fs, eb]
  rfl
/-! ### value[k] < value[k + 1] -/
theorem tup_ix {A : Around} {E : Value → Shared → Prop} {Q : Value → Shared → Prop} {value slice : Expr} {its : List Value} {ns : List Int} {i : Nat} {z : Int} {t : Tok} (pl : IsTup s.heap a its.toArray) (r : Vals (ns.map V.int) its) (h : ns[i]? = some z) (hQ : ∀ t, Q (.int z t) s)
    (hz : (ns.map V.int).length ≤ sizeLine) (hs : subscripted slice false (.ref a) (.int (i : Int) t) = operate [.ref a, .int (i : Int) t] (getItem (.ref a) (.int (i : Int) t))) : wpAny (model X.prog X.w) A (subscriptTail value slice (.ref a) (.int (i : Int) t)) Q E s := by
  have g1 : (ns.map V.int)[i]? = some (.int z) := by rw [List.getElem?_map, h]; rfl
  obtain ⟨j, h1, h2, h3, h4, h5⟩ := atI_get (atI_nat g1)
  obtain ⟨w, ew, t', rfl⟩ := r.get h2
  have hl := r.length
  have hn := line63
  exact subscriptTail_builtinR (x := .int z t') pl.typeIs slot_tuple_getitem.lookup
    (getItem_tuple (j := j) (Q := fun r s' => r = .int z t' ∧ Q r s') pl (by omega) (by omega) (by rw [List.size_toArray, ← hl]; exact h1) (by simpa using ew) ⟨rfl, hQ t'⟩) hs
theorem elt_lt {scope : Scope} {ns : List Int} {i0 : Nat} {x y : Str} {p1 p2 p3 p4 p5 p6 p7 p8 p9 : Pos} {j1 : Nat} {Pf : Nat → Value → Prop} {pb : Nat → Bool} (I : Inv X pins σ H s1) (T : TabG H P)
    (hk : scope.kind = .function) (ho : scope.names.lookup x = some .local) (hz : scope.names.lookup y = some .free) (hclo : ∀ cells, (cloFrom cells scope.names []).lookup y = some ((cells.lookup y).getD 0))
    (hN : X.N[i0]? = some y) (hσ : σ[i0]? = some (some (.ref a))) (hc : X.env.scope.names.lookup y = some .cell) (ha : H a = some (.tup (ns.map V.int)))
    (hP : ∀ i v, Pf i v → ∃ t z1 z2, v = .int ((i : Nat) : Int) t ∧ ns[i]? = some z1 ∧ ns[i + 1]? = some z2 ∧ pb i = decide (z1 < z2)) (hd : (x == ("__debug__" : Str)) = false := by decide) (hd2 : (y == ("__debug__" : Str)) = false := by decide) (hcd : (y == ("__classdict__" : Str)) = false := by decide) :
    EltG X s1 P scope x (.Compare (.Subscript (.Name y p1) (.Name x p2) p3) [.Lt] [.Subscript (.Name y p4) (.BinOp (.Name x p5) .Add (.Constant (.int 1) j1 p6) p7) p8] p9) Pf pb := by
  intro C code A' E' i v s₂ m₂ hA hD hU hPv hn hm hkp
  obtain ⟨t, z1, z2, rfl, h1, h2, eb⟩ := hP i v hPv
  obtain ⟨c, u, hc1, ru, hc2⟩ := cap I hN hσ hc
  cases ru
  have hclo2 : s₂.heap.IsCell c (some (.ref a)) := cell_stays I T hkp hc2
  obtain ⟨its, r, pl, hz2⟩ := I.tuple (SqT.of ha)
  have pl2 := tup_stays I T hkp pl
  refine wpAny_Compare1 ?_ rfl
  refine Subscript_ ?_
  refine ld_free (c := c) hk hz hclo hc1 hclo2 ?_ hd2 hcd
  refine ld_loc hk ho hn hm ?_ hd
  refine tup_ix pl2 r h1 (fun t1 => ?_) hz2 rfl
  refine Subscript_ ?_
  refine ld_free (c := c) hk hz hclo hc1 hclo2 ?_ hd2 hcd
  refine wpAny_BinOp ?_
  refine ld_loc hk ho hn hm ?_ hd
  refine wpAny_Constant_int ?_
  refine add_int ?_
  rw [show ((i : Nat) : Int) + 1 = ((i + 1 : Nat) : Int) by omega]
  refine tup_ix (s := { s₂ with toks := _ }) pl2 r h2 (fun t2 => ?_) hz2 rfl
  refine lt_int ⟨by rw [eb], ?_⟩
  exact ⟨s₂.heap, _, rfl, fun _ _ e => e⟩
end
end K91
namespace K91
open PySem PySem.Spec PyProof.Rows L2
open GxR (TabB TabG Tabbed inv_tab sh_eta GenS keeps_refl keeps_tok)
/-! ### heaps: all stands, but tables may grow -/
structure Kp (H H' : Hp) : Prop where
  same : ∀ b o, H b = some o → (∀ ps, o ≠ .tbl ps) → H' b = some o
  tab : ∀ b ps, H b = some (.tbl ps) → ∃ ps', H' b = some (.tbl ps') ∧ (TriplesOk ps.toList → TriplesOk ps'.toList)
theorem Kp.refl (H : Hp) : Kp H H := ⟨fun _ _ h _ => h, fun _ ps h => ⟨ps, h, fun t => t⟩⟩
theorem Kp.trans {H H1 H2 : Hp} (a : Kp H H1) (b : Kp H1 H2) : Kp H H2 :=
  ⟨fun c o h n => b.same c o (a.same c o h n) n, fun c ps h => by
    obtain ⟨p1, h1, t1⟩ := a.tab c ps h
    obtain ⟨p2, h2, t2⟩ := b.tab c p1 h1
    exact ⟨p2, h2, fun t => t2 (t1 t)⟩⟩
theorem Kp.free {H H' : Hp} (k : Kp H H') {p : Addr} (h : H' p = none) : H p = none := by
  cases q : H p with
  | none => rfl
  | some o =>
    cases o with
    | tbl ps =>
      obtain ⟨ps', e, _⟩ := k.tab p ps q
      rw [h] at e
      cases e
    | _ =>
      have e := k.same p _ q (fun ps z => by cases z)
      rw [h] at e
      cases e
theorem Kp.new {H : Hp} {p : Addr} {o : HO} (h : H p = none) : Kp H (upd H p o) :=
  ⟨fun b u e _ => by rw [upd_ne (ne_of_none e h)]; exact e, fun b ps e => ⟨ps, by rw [upd_ne (ne_of_none e h)]; exact e, fun t => t⟩⟩
/-- an object that H does not know is written -/
theorem Kp.mut {H H' : Hp} {p : Addr} {o : HO} (k : Kp H H') (h : H p = none) : Kp H (upd H' p o) :=
  ⟨fun b u e n => by rw [upd_ne (ne_of_none e h)]; exact k.same b u e n, fun b ps e => by
    obtain ⟨ps', e', t⟩ := k.tab b ps e
    exact ⟨ps', by rw [upd_ne (ne_of_none e h)]; exact e', t⟩⟩
theorem Kp.tabbed {H H' : Hp} {P : Addr} (t : TabG H P) (h : Tabbed P H H') : Kp H H' := by
  obtain ⟨⟨ps', hP', t'⟩, hb⟩ := h
  obtain ⟨ps, hP, _⟩ := t
  refine ⟨fun b o e n => ?_, fun b qs e => ?_⟩
  · rw [hb b (fun z => by rw [z, hP] at e; cases e; exact n ps rfl)]
    exact e
  · by_cases z : b = P
    · rw [z]
      exact ⟨ps', hP', fun _ => t'⟩
    · rw [hb b z]
      exact ⟨qs, e, fun t => t⟩
theorem Kp.tabG {H H' : Hp} (k : Kp H H') {P : Addr} (t : TabG H P) : TabG H' P := by
  obtain ⟨ps, hP, ht⟩ := t
  obtain ⟨ps', hP', t'⟩ := k.tab P ps hP
  exact ⟨ps', hP', t' ht⟩
theorem Kp.lst {H H' : Hp} (k : Kp H H') {a : Addr} {xs : List V} (h : H a = some (.lst xs)) : H' a = some (.lst xs) := k.same a _ h fun _ z => by cases z
theorem Kp.tup {H H' : Hp} (k : Kp H H') {a : Addr} {xs : List V} (h : H a = some (.tup xs)) : H' a = some (.tup xs) := k.same a _ h fun _ z => by cases z
theorem Kp.sql {K : PySem.W.Frag} {H H' : Hp} {a : Addr} {xs : List V} (k : Kp H H') (h : SqL K H a xs) : SqL K H' a xs := by
  rcases h with (h | ⟨o, h⟩) | h
  · exact .inl (.inl (k.lst h))
  · exact .inl (.inr ⟨o, k.same _ _ h fun _ z => by cases z⟩)
  · exact .inr h
/-- Nat lists as values -/
abbrev nV (l : List Nat) : List V := l.map fun n : Nat => V.int (n : Int)
theorem nV_eq (l : List Nat) : nV l = (l.map fun n : Nat => (n : Int)).map V.int := by rw [List.map_map]; rfl
theorem nV_flat : ∀ l : List Nat, (nV l).all flatV = true
  | [] => rfl
  | x :: r => by
    show (flatV (V.int (x : Int)) && (nV r).all flatV) = true
    rw [nV_flat r]
    rfl
theorem nV_len (l : List Nat) : (nV l).length = l.length := List.length_map _
theorem nV_get {l : List Nat} {i x : Nat} (h : l[i]? = some x) : (nV l)[i]? = some (.int (x : Int)) := by rw [List.getElem?_map, h]; rfl
/-! ### all(..) -/
section
variable {X : Cx}
def tAllG (X : Cx) (P : Addr) (scope : Scope) (x : Str) (elt : Expr) (te : TE) : TE := fun σ H Q => te σ H fun v H1 => TabG H1 P ∧ ∃ (n : Nat) (Pf : Nat → Value → Prop) (pb : Nat → Bool),
  (∀ (pins : List (Addr × Obj)) (s1 : Shared) (u : Value), Inv X pins σ H1 s1 → RelV v u → SrcOk X.prog X.w X.A X.xe s1 u n Pf ∧ EltG X s1 P scope x elt Pf pb) ∧ ∀ H2, Tabbed P H1 H2 → Q (.bl ((List.range n).all pb)) H2
theorem pe_allG {c P : Addr} {elt iter : Expr} {x : Str} {px p pos gpos : Pos} {scope : Scope} {te : TE} {k : Nat}
    (hr : Room k X.A) (hg : Gl X "all") (hm : X.mg "all" = none) (TB : TabB X.base X.mg c P) (hcode : X.env.code = .ref c) (S : GenS X.env scope x) (hi : PE X iter te)
    (hs : ∀ v, genFold iter X.env v = pure v)
    (he : starEach [.GeneratorExp elt [⟨.Name x px, iter, [], 0⟩] scope gpos] X.env = (false, eval (.GeneratorExp elt [⟨.Name x px, iter, [], 0⟩] scope gpos) X.env) :: starEach [] X.env := by rfl) :
    PE X (.Call (.Name "all" p) [.GeneratorExp elt [⟨.Name x px, iter, [], 0⟩] scope gpos] [] pos) (tAllG X P scope x elt te) := by
  constructor
  intro pins s0 σ H Q I told
  refine wpAny_Call_Name_kw (ld_blt (u := .builtin "all") I hg hm (by decide +kernel) (PyProof.Rows.callWith_builtin1 ?_ he (by rfl)))
  rw [he]
  refine Calls.spliced_cons (gen_all (R := fun n pb Hn => ∀ Hz, Tabbed P Hn Hz → Q (.bl ((List.range n).all pb)) Hz) hr TB hcode S hi hs I told fun n pb Hn it t rest ready => Calls.spliced_nil ?_)
  obtain ⟨cells, own, gens, yields, at_, walk, start, truth, back⟩ := ready
  refine call_all_walkS (walk.self 0 _ _ _ start ⟨it, cells, own, gens, _, yields, at_, _, rfl, walk, start, truth, fun t' moved => ?_⟩)
  have ⟨Hz, grown, J⟩ := back t' moved
  exact ⟨.bl _, Hz, J, rfl, rest Hz grown⟩
end
/-! ### a source's items told otherwise; what the tests come to -/
theorem SrcOk.imp {prog : Program} {w : World} {A : Around} {E : Value → Shared → Prop} {s1 : Shared} {xv : Value} {n : Nat} {Pf Pg : Nat → Value → Prop} (S : SrcOk prog w A E s1 xv n Pf) (h : ∀ i v, Pf i v → Pg i v) : SrcOk prog w A E s1 xv n Pg :=
  ⟨fun Q q => S.go Q fun o St fp W st h1 h2 => q o St fp (fun A' hA => let W := W A' hA; ⟨W.sub, W.frame, fun i s Q E hi st hQ => W.item i s Q E hi st fun v h' tk hp st' hk => hQ v h' tk (h i v hp) st' hk, W.done, W.self⟩) st h1 h2⟩
def pbL (ns : List Int) (p : Int → Bool) (i : Nat) : Bool := match ns[i]? with
  | some z => p z
  | none => true
theorem all_pbL (ns : List Int) (p : Int → Bool) : (List.range ns.length).all (pbL ns p) = ns.all p := by
  rw [Bool.eq_iff_iff, List.all_eq_true, List.all_eq_true]
  constructor
  · intro h z hz
    obtain ⟨j, hj, e⟩ := List.getElem_of_mem hz
    have q := h j (List.mem_range.mpr hj)
    unfold pbL at q
    rw [List.getElem?_eq_getElem hj, e] at q
    exact q
  · intro h j hj
    have hj' := List.mem_range.mp hj
    unfold pbL
    rw [List.getElem?_eq_getElem hj']
    exact h _ (List.getElem_mem hj')
section
variable {X : Cx} {pins : List (Addr × Obj)} {σ : L2.St} {H : Hp} {s1 : Shared} {a : Addr} {u : Value}
def PfL (ns : List Int) (i : Nat) (v : Value) : Prop := ∃ z t, ns[i]? = some z ∧ v = .int z t
theorem src_ints {ns : List Int} (I : Inv X pins σ H s1) (r : RelV (.ref a) u) (ha : H a = some (.tup (ns.map V.int))) : SrcOk X.prog X.w X.A X.xe s1 u ns.length (PfL ns) := by
  cases r
  obtain ⟨its, rv, pl, hz⟩ := I.tuple (SqT.of ha)
  have hl := rv.length
  rw [List.length_map] at hl
  have S := src_tup (prog := X.prog) (w := X.w) (A := X.A) (E := X.xe) (s1 := s1) (l := a) (items := its.toArray) pl
  have e : its.toArray.size = ns.length := by rw [List.size_toArray, ← hl]
  rw [e] at S
  refine S.imp fun i v hv => ?_
  have hv2 : its[i]? = some v := by simpa using hv
  have hi : i < ns.length := by rw [hl]; exact (List.getElem?_eq_some_iff.mp hv2).1
  have g : (ns.map V.int)[i]? = some (.int ns[i]) := by rw [List.getElem?_map, List.getElem?_eq_getElem hi]; rfl
  obtain ⟨w, ew, t, rfl⟩ := rv.get g
  rw [hv2] at ew
  cases ew
  exact ⟨ns[i], t, List.getElem?_eq_getElem hi, rfl⟩
theorem src_range {n : Nat} {j : Int} (I : Inv X pins σ H s1) (r : RelV (.ref a) u) (ha : H a = some (.rng 0 j)) (hj : j.toNat = n) (hb : -(2 ^ 62) ≤ j) (hb' : j < 2 ^ 62) : SrcOk X.prog X.w X.A X.xe s1 u n (fun i v => i < n ∧ ∃ tk, v = .int ((i : Nat) : Int) tk) := by
  cases r
  obtain ⟨t, u, v, e⟩ := I.hok a _ ha
  refine (src_rng (prog := X.prog) (w := X.w) (A := X.A) (E := X.xe) (n := n) e (small_one (by omega) (by omega) hb hb') (by rw [rangeSize_nat]; omega)).imp fun i v hv => ?_
  obtain ⟨h1, tk, rfl⟩ := hv
  exact ⟨h1, tk, by rw [show (0 : Int) + (i : Nat) * 1 = ((i : Nat) : Int) by omega]⟩
theorem cr_range1 : CallR X (.type "range") (fun vs H Q => ∃ j, vs = [V.int j] ∧ ∀ p, H p = none → Q (.ref p) (upd H p (.rng 0 j))) := by
  intro pins s σ H vs us Q I r h
  obtain ⟨j, rfl, q⟩ := h
  cases r with
  | cons r rr =>
    cases rr
    obtain ⟨t, rfl⟩ := r
    refine call_range_1 ⟨.ref s.heap.objs.size, upd H s.heap.objs.size (.rng 0 j), I.laid (t' := s.toks + 1 + 1) (fun b o e => Heap.get?_push_of_some _ e) (Nat.le_refl _) ?_, rfl, q _ (I.hok.fresh (Nat.le_refl _))⟩
    exact ⟨s.toks, t, s.toks + 1, Heap.get?_push_size _ rfl⟩
theorem genS_mk {env : Env} {scope sc : Scope} {x : Str} {n : Nat} (hcells : env.cells = cellsFrom n sc.names []) (k : scope.kind = .function) (co : scope.isCoroutine = false) (cell : ∀ y ∈ scope.names, y.2 ≠ .cell) (dot : scope.names.lookup (".0" : Str) = some NameKind.local) (loc : scope.names.lookup x = some .local)
    (free : ∀ y ∈ scope.names, y.2 = .free → sc.names.lookup y.1 = some .cell) : GenS env scope x :=
  ⟨k, co, cell, dot, loc, fun y hy e => by rw [hcells]; exact cell_has (free y hy e)⟩
end
/-! ### defs, facts -/
structure Dx (K : PySem.W.Frag) (mg : Str → Option Value) (x : Str) (st : Stmt) (ps : List Str) where
  f : Addr
  fd : FuncData
  cdv : Value
  F : FunC K x st f fd cdv
  g : mg x = some (.ref f)
  b : Binds K fd ps []
/-- the def's code object, its table -/
structure Tx (mg : Str → Option Value) (base : Heap) (cdv : Value) where
  c : Addr
  P : Addr
  hc : cdv = .ref c
  TB : TabB base mg c P
structure Bz (mg : Str → Option Value) : Prop where
  isi : mg "isinstance" = none
  int : mg "int" = none
  bool : mg "bool" = none
  tuple : mg "tuple" = none
  len : mg "len" = none
  all : mg "all" = none
  range : mg "range" = none
  sorted : mg "sorted" = none
  sum : mg "sum" = none
  zip : mg "zip" = none
  enum : mg "enumerate" = none
  max : mg "max" = none
  ls : ∃ t, mg "LEAST_SIZE" = some (.int 2 t)
  ms : ∃ t, mg "MOST_SIZE" = some (.int 9 t)
section
variable {P : Program} {w : World} {K : PySem.W.Frag} {mg : Str → Option Value} {base : Heap}
/-! ### is_in -/
def spIsIn : Sp := fun vs H Q _ => ∃ i a b : Int, vs = [.int i, .int a, .int b] ∧ Q (.bl (isinB i a b)) H
theorem ok_isin (D : Dx K mg "is_in" s_isin p_isin) (B : Bz mg) : FnOk P w K mg base CX0 1 D.f D.fd p_isin spIsIn := by
  refine ⟨fun vs H Q E h => ?_, fun A outer s H args us vs Q E hr e0 hb r hsp => ?_⟩
  · obtain ⟨i, a, b, rfl, _⟩ := h
    rfl
  · obtain ⟨i, a, b, rfl, q⟩ := hsp
    cases r with
    | cons r1 r =>
      cases r with
      | cons r2 r =>
        cases r with
        | cons r3 r =>
          cases r
          obtain ⟨t1, rfl⟩ := r1
          obtain ⟨t2, rfl⟩ := r2
          obtain ⟨t3, rfl⟩ := r3
          refine codeAny_mono (isin_exact D.F e0.mod (fun b o e => (e0.bs b o e).1) B.isi B.int B.bool hr.depth hb) fun r s' hq => ?_
          obtain ⟨rfl, h9, tk, rfl, hk9⟩ := hq
          exact ⟨.bl _, H, rfl, e0.bare, Un.kept hk9, e0.hok.kept hk9, rfl, q⟩
/-! ### need_size -/
def spNeedSize : Sp := fun vs H Q _ => ∃ n : Nat, vs = [.int (n : Int)] ∧ 2 ≤ n ∧ n ≤ 9 ∧ Q .non H
theorem ok_needsize (D : Dx K mg "need_size" s_needsize p_needsize) (Di : Dx K mg "is_in" s_isin p_isin) (B : Bz mg) : FnOk P w K mg base CX0 2 D.f D.fd p_needsize spNeedSize := by
  obtain ⟨tl, ml⟩ := B.ls
  obtain ⟨tm, mm⟩ := B.ms
  refine D.F.ok sc_needsize (fun vs H Q E h => ?_) (fun A outer s H vs Q E hr h => ?_)
  · obtain ⟨n, rfl, _⟩ := h
    rfl
  · obtain ⟨n, rfl, h2, h9, q⟩ := h
    refine ⟨_, pss_one (ps_if (pt_not (pt_val (pe_call (ok_isin Di B) hr rfl Di.g Di.F.kp Di.b .nil pass0 (pa_cons (pv 0) (pa_cons (pe_glob (v := .int 2) rfl ml ⟨_, rfl⟩) (pa_cons (pe_glob (v := .int 9) rfl mm ⟨_, rfl⟩) pa_nil)))))) pss_never pss_nil), ?_⟩
    refine ⟨.int (n : Int), rfl, (n : Int), 2, 9, rfl, isinB (n : Int) 2 9, rfl, ?_⟩
    have e : isinB (n : Int) 2 9 = true := by
      unfold isinB
      rw [decide_eq_true (show (2 : Int) ≤ (n : Int) by omega), decide_eq_true (show (n : Int) ≤ 9 by omega)]
      rfl
    rw [e]
    exact iteF q
end
end K91
namespace K91
open PySem PySem.Spec PyProof.Rows L2
open GxR (TabB TabG Tabbed inv_tab sh_eta GenS keeps_refl keeps_tok)
section
variable {P : Program} {w : World} {K : PySem.W.Frag} {mg : Str → Option Value} {base : Heap}
theorem isin_nat (z n : Nat) (h : z < n) : isinB (z : Int) 0 ((n : Int) - 1) = true := by
  unfold isinB
  rw [decide_eq_true (show (0 : Int) ≤ (z : Int) by omega), decide_eq_true (show (z : Int) ≤ (n : Int) - 1 by omega)]
  rfl
/-- a set of places of a ring -/
def IsSet (n : Nat) (l : List Nat) : Prop := (∀ x ∈ l, x < n) ∧ l.Pairwise (· < ·)
def pbLt (l : List Nat) (i : Nat) : Bool := match l[i]?, l[i + 1]? with
  | some x, some y => decide ((x : Int) < (y : Int))
  | _, _ => true
theorem all_pbLt {l : List Nat} (h : l.Pairwise (· < ·)) (n : Nat) : (List.range n).all (pbLt l) = true := by
  rw [List.all_eq_true]
  intro i _
  unfold pbLt
  cases e1 : l[i]? with
  | none => rfl
  | some x =>
    cases e2 : l[i + 1]? with
    | none => rfl
    | some y =>
      obtain ⟨h1, q1⟩ := List.getElem?_eq_some_iff.mp e1
      obtain ⟨h2, q2⟩ := List.getElem?_eq_some_iff.mp e2
      have z := List.pairwise_iff_getElem.mp h i (i + 1) h1 h2 (Nat.lt_succ_self i)
      rw [q1, q2] at z
      exact decide_eq_true (show (x : Int) < (y : Int) by omega)
/-! ### is_set -/
def spIsSet (P : Addr) : Sp := fun vs H Q _ => ∃ (n : Nat) (a : Addr) (l : List Nat), vs = [.int (n : Int), .ref a] ∧ H a = some (.tup (nV l)) ∧ IsSet n l ∧ l.length ≤ 1000 ∧ TabG H P ∧ ∀ H', Kp H H' → Q (.bl true) H'
theorem ok_isset (D : Dx K mg "is_set" s_isset p_isset) (T : Tx mg base D.cdv) (Di : Dx K mg "is_in" s_isin p_isin) (B : Bz mg) : FnOk P w K mg base CX0 2 D.f D.fd p_isset (spIsSet T.P) := by
  refine D.F.ok sc_isset (fun vs H Q E h => ?_) (fun A outer s H vs Q E hr h => ?_)
  · obtain ⟨n, a, l, rfl, _⟩ := h
    rfl
  · obtain ⟨n, a, l, rfl, ha, hl, hlen, hT, q⟩ := h
    obtain ⟨c, Pt, hc, TB⟩ := T
    refine ⟨_, pss_cons (ps_if (PW.pt (pw_or (pt_not (pt_val (pe_callB call_isi (by rfl) B.isi (by decide +kernel) (pa_cons (pv 1) (pa_cons (pe_bltn (v := .ty "tuple") (u := .type "tuple") (by rfl) B.tuple (by decide +kernel) rfl) pa_nil)))))
        (pw_or1 (pt_not (pt_val (pe_allG hr (by rfl) B.all TB hc (genS_mk rfl rfl rfl (by decide +kernel) rfl rfl (by decide +kernel)) (pv 1) (fun _ => rfl)))))))
        (pss_one (ps_ret pe_bl)) pss_nil)
      (pss_one (ps_ret (pe_allG hr (by rfl) B.all TB hc (genS_mk rfl rfl rfl (by decide +kernel) rfl rfl (by decide +kernel))
        (pe_callTy cr_range1 (by rfl) B.range (by decide +kernel) (pa_cons (pe_op op_sub (pe_callB call_len_seq (by rfl) B.len PySem.boot_len (pa_cons (pv 1) pa_nil)) pe_int) pa_nil)) (fun _ => rfl)))), ?_⟩
    have ha2 : H a = some (.tup ((l.map fun n : Nat => (n : Int)).map V.int)) := by rw [ha, nV_eq]
    refine ⟨.ref a, rfl, .ref a, .ty "tuple", .type "tuple", .type "tuple", true, rfl, .ty _, .base (.tup ha), kit_ty (by decide +kernel), true, rfl, iteF ?_⟩
    refine ⟨.ref a, rfl, hT, _, PfL (l.map fun n : Nat => (n : Int)), pbL (l.map fun n : Nat => (n : Int)) fun z => isinB z 0 ((n : Int) - 1), fun pins s1 u I r => ⟨src_ints I r ha2, elt_isin hr I hT Di.F Di.g B.isi B.int B.bool rfl rfl rfl rfl (fun _ => rfl) rfl rfl rfl fun i v hv => ?_⟩, fun H2 hT2 => ?_⟩
    · obtain ⟨z, t, e, rfl⟩ := hv
      exact ⟨z, t, rfl, by unfold pbL; rw [e]⟩
    have k2 : Kp H H2 := Kp.tabbed hT hT2
    have e1 : (l.map fun n : Nat => (n : Int)).all (fun z => isinB z 0 ((n : Int) - 1)) = true := by
      rw [List.all_eq_true]
      intro z hz
      obtain ⟨x, hx, rfl⟩ := List.mem_map.mp hz
      exact isin_nat x n (hl.1 x hx)
    rw [all_pbL, e1]
    refine ⟨true, rfl, iteF ?_⟩
    -- the second
    have hT3 : TabG H2 Pt := k2.tabG hT
    refine ⟨.ref a, rfl, a, nV l, rfl, .inr (SqT.of (k2.tup ha)), ((nV l).length : Int), 1, rfl, rfl, ((nV l).length : Int) - 1, rfl, fun p np => ?_⟩
    have k3 : Kp H2 (upd H2 p (.rng 0 (((nV l).length : Int) - 1))) := Kp.new np
    have hlen2 := nV_len l
    refine ⟨k3.tabG hT3, l.length - 1, fun i v => i < l.length - 1 ∧ ∃ tk, v = .int ((i : Nat) : Int) tk, pbLt l, fun pins s1 u I r => ⟨src_range I r upd_same (by omega) (by omega) (by omega), elt_lt (i0 := 1) (ns := l.map fun n : Nat => (n : Int)) I (k3.tabG hT3) rfl rfl rfl (fun _ => rfl) rfl rfl rfl (k3.tup (k2.tup ha2)) fun i v hv => ?_⟩, fun H3 hT4 => ?_⟩
    · obtain ⟨hi, tk, rfl⟩ := hv
      have g1 : l[i]? = some l[i] := List.getElem?_eq_getElem (by omega)
      have g2 : l[i + 1]? = some l[i + 1] := List.getElem?_eq_getElem (by omega)
      refine ⟨tk, (l[i] : Int), (l[i + 1] : Int), rfl, by rw [List.getElem?_map, g1]; rfl, by rw [List.getElem?_map, g2]; rfl, ?_⟩
      unfold pbLt
      rw [g1, g2]
    · rw [all_pbLt hl.2]
      exact q H3 ((k2.trans k3).trans (Kp.tabbed (k3.tabG hT3) hT4))
end
end K91
namespace K91
open PySem PySem.Spec PyProof.Rows L2
open GxR (TabB TabG Tabbed inv_tab sh_eta GenS keeps_refl keeps_tok)
theorem inV_nV (x : Nat) : ∀ l : List Nat, inV (.int (x : Int)) (nV l) = mem x l
  | [] => rfl
  | y :: r => by
    have ih := inV_nV x r
    unfold mem
    show (eqV (.int (y : Int)) (.int (x : Int)) || inV (.int (x : Int)) (nV r)) = _
    rw [ih]
    cases h : Nat.beq x y with
    | true =>
      have e : x = y := Nat.eq_of_beq_eq_true h
      subst e
      have : eqV (.int (x : Int)) (.int (x : Int)) = true := by simp [eqV]
      rw [this]
      rfl
    | false =>
      have e : x ≠ y := Nat.ne_of_beq_eq_false h
      have : eqV (.int (y : Int)) (.int (x : Int)) = false := by
        simp only [eqV, beq_eq_false_iff_ne, ne_eq]
        omega
      rw [this]
      rfl
section
variable {P : Program} {w : World} {K : PySem.W.Frag} {mg : Str → Option Value} {base : Heap}
/-! ### need_set -/
def spNeedSet (P : Addr) : Sp := fun vs H Q _ => ∃ (n : Nat) (a : Addr) (l : List Nat), vs = [.int (n : Int), .ref a] ∧ H a = some (.tup (nV l)) ∧ IsSet n l ∧ l.length ≤ 1000 ∧ TabG H P ∧ ∀ H', Kp H H' → Q .non H'
theorem ok_needset (D : Dx K mg "need_set" s_needset p_needset) (Ds : Dx K mg "is_set" s_isset p_isset) (T : Tx mg base Ds.cdv) (Di : Dx K mg "is_in" s_isin p_isin) (B : Bz mg) : FnOk P w K mg base CX0 3 D.f D.fd p_needset (spNeedSet T.P) := by
  refine D.F.ok sc_needset (fun vs H Q E h => ?_) (fun A outer s H vs Q E hr h => ?_)
  · obtain ⟨n, a, l, rfl, _⟩ := h
    rfl
  · obtain ⟨n, a, l, rfl, ha, hl, hlen, hT, q⟩ := h
    refine ⟨_, pss_one (ps_if (pt_not (pt_val (pe_call (ok_isset Ds T Di B) hr rfl Ds.g Ds.F.kp Ds.b .nil pass0 (pa_cons (pv 0) (pa_cons (pv 1) pa_nil))))) pss_never pss_nil), ?_⟩
    refine ⟨.int (n : Int), rfl, .ref a, rfl, n, a, l, rfl, ha, hl, hlen, hT, fun H1 k1 => ⟨true, rfl, iteF ?_⟩⟩
    exact q H1 k1
/-! ### need_whole -/
def spNeedWhole (P : Addr) : Sp := fun vs H Q _ => ∃ (n : Nat) (a : Addr) (l : List Nat), vs = [.int (n : Int), .ref a] ∧ 2 ≤ n ∧ n ≤ 9 ∧ H a = some (.tup (nV l)) ∧ IsSet n l ∧ l.length < n ∧ TabG H P ∧ ∀ H', Kp H H' → Q .non H'
theorem ok_needwhole (D : Dx K mg "need_whole" s_needwhole p_needwhole) (Dn : Dx K mg "need_size" s_needsize p_needsize) (Ds : Dx K mg "is_set" s_isset p_isset) (T : Tx mg base Ds.cdv) (Di : Dx K mg "is_in" s_isin p_isin) (B : Bz mg) : FnOk P w K mg base CX0 3 D.f D.fd p_needwhole (spNeedWhole T.P) := by
  refine D.F.ok sc_needwhole (fun vs H Q E h => ?_) (fun A outer s H vs Q E hr h => ?_)
  · obtain ⟨n, a, l, rfl, _⟩ := h
    rfl
  · obtain ⟨n, a, l, rfl, h2, h9, ha, hl, hlen, hT, q⟩ := h
    refine ⟨_, pss_cons (ps_expr (pe_call (ok_needsize Dn Di B) hr rfl Dn.g Dn.F.kp Dn.b .nil pass0 (pa_cons (pv 0) pa_nil)))
      (pss_one (ps_if (PW.pt (pw_or (pt_not (pt_val (pe_call (ok_isset Ds T Di B) hr rfl Ds.g Ds.F.kp Ds.b .nil pass0 (pa_cons (pv 0) (pa_cons (pv 1) pa_nil)))))
        (pw_or1 (pt_cmpR op_eq (pe_callB call_len_seq (by rfl) B.len PySem.boot_len (pa_cons (pv 1) pa_nil)) (pv 0) (nomark _))))) pss_never pss_nil)), ?_⟩
    refine ⟨.int (n : Int), rfl, n, rfl, h2, h9, ?_⟩
    refine ⟨.int (n : Int), rfl, .ref a, rfl, n, a, l, rfl, ha, hl, by omega, hT, fun H1 k1 => ⟨true, rfl, iteF ?_⟩⟩
    refine ⟨.ref a, rfl, a, nV l, rfl, .inr (SqT.of (k1.tup ha)), .int (n : Int), rfl, rfl, _, rfl, ?_⟩
    have e : decide (V.int ((nV l).length : Int) = V.int (n : Int)) = false := decide_eq_false fun z => by
      have := V.int.inj z
      rw [nV_len] at this
      omega
    rw [e]
    exact iteF (q H1 k1)
/-! ### need_terms -/
def spNeedTerms (P : Addr) : Sp := fun vs H Q _ => ∃ (n : Nat) (a b : Addr) (l m : List Nat), vs = [.int (n : Int), .ref a, .ref b] ∧ 2 ≤ n ∧ n ≤ 9 ∧ H a = some (.tup (nV l)) ∧ IsSet n l ∧ l.length < n ∧ H b = some (.tup (nV m)) ∧ IsSet n m ∧ m.length ≤ 1000 ∧ TabG H P ∧ ∀ H', Kp H H' → Q .non H'
theorem ok_needterms (D : Dx K mg "need_terms" s_needterms p_needterms) (Dw : Dx K mg "need_whole" s_needwhole p_needwhole) (Dt : Dx K mg "need_set" s_needset p_needset) (Dn : Dx K mg "need_size" s_needsize p_needsize) (Ds : Dx K mg "is_set" s_isset p_isset) (T : Tx mg base Ds.cdv) (Di : Dx K mg "is_in" s_isin p_isin) (B : Bz mg) :
    FnOk P w K mg base CX0 4 D.f D.fd p_needterms (spNeedTerms T.P) := by
  refine D.F.ok sc_needterms (fun vs H Q E h => ?_) (fun A outer s H vs Q E hr h => ?_)
  · obtain ⟨n, a, b, l, m, rfl, _⟩ := h
    rfl
  · obtain ⟨n, a, b, l, m, rfl, h2, h9, ha, hl, hlen, hb, hm, hmlen, hT, q⟩ := h
    refine ⟨_, pss_cons (ps_expr (pe_call (ok_needwhole Dw Dn Ds T Di B) hr rfl Dw.g Dw.F.kp Dw.b .nil pass0 (pa_cons (pv 0) (pa_cons (pv 1) pa_nil))))
      (pss_one (ps_expr (pe_call (ok_needset Dt Ds T Di B) hr rfl Dt.g Dt.F.kp Dt.b .nil pass0 (pa_cons (pv 0) (pa_cons (pv 2) pa_nil))))), ?_⟩
    refine ⟨.int (n : Int), rfl, .ref a, rfl, n, a, l, rfl, h2, h9, ha, hl, hlen, hT, fun H1 k1 => ?_⟩
    refine ⟨.int (n : Int), rfl, .ref b, rfl, n, b, m, rfl, k1.tup hb, hm, hmlen, k1.tabG hT, fun H2 k2 => ?_⟩
    exact q H2 (k1.trans k2)
/-! ### lies_in -/
def spLiesIn (P : Addr) : Sp := fun vs H Q _ => ∃ (a b : Addr) (l m : List Nat), vs = [.ref a, .ref b] ∧ H a = some (.tup (nV l)) ∧ H b = some (.tup (nV m)) ∧ TabG H P ∧ ∀ H', Kp H H' → Q (.bl (m.all fun x => mem x l)) H'
theorem ok_liesin (D : Dx K mg "lies_in" s_liesin p_liesin) (T : Tx mg base D.cdv) (B : Bz mg) : FnOk P w K mg base CX0 1 D.f D.fd p_liesin (spLiesIn T.P) := by
  refine D.F.ok sc_liesin (fun vs H Q E h => ?_) (fun A outer s H vs Q E hr h => ?_)
  · obtain ⟨a, b, l, m, rfl, _⟩ := h
    rfl
  · obtain ⟨a, b, l, m, rfl, ha, hb, hT, q⟩ := h
    obtain ⟨c, Pt, hc, TB⟩ := T
    refine ⟨_, pss_one (ps_ret (pe_allG hr (by rfl) B.all TB hc (genS_mk rfl rfl rfl (by decide +kernel) rfl rfl (by decide +kernel)) (pv 1) (fun _ => rfl))), ?_⟩
    have hb2 : H b = some (.tup ((m.map fun n : Nat => (n : Int)).map V.int)) := by rw [hb, nV_eq]
    refine ⟨.ref b, rfl, hT, _, PfL (m.map fun n : Nat => (n : Int)), pbL (m.map fun n : Nat => (n : Int)) fun z => inV (.int z) (nV l), fun pins s1 u I r => ⟨src_ints I r hb2, elt_in (i0 := 0) I hT rfl rfl rfl (fun _ => rfl) rfl rfl rfl ha (nV_flat l) fun i v hv => ?_⟩, fun H2 hT2 => ?_⟩
    · obtain ⟨z, t, e, rfl⟩ := hv
      exact ⟨.int z, ⟨t, rfl⟩, rfl, by unfold pbL; rw [e]⟩
    · have k2 : Kp H H2 := Kp.tabbed hT hT2
      rw [all_pbL, List.all_map]
      have e : (m.all ((fun z => inV (.int z) (nV l)) ∘ fun n : Nat => (n : Int))) = m.all fun x => mem x l := by
        congr 1
        funext x
        exact inV_nV x l
      rw [e]
      exact q H2 k2
/-! ### are_wishes, need_wishes -/
def spAreWishes (P : Addr) : Sp := fun vs H Q _ => ∃ (n : Nat) (a : Addr) (l : List Nat), vs = [.int (n : Int), .ref a] ∧ H a = some (.tup (nV l)) ∧ (∀ x ∈ l, x < n) ∧ l.length ≤ n ∧ TabG H P ∧ ∀ H', Kp H H' → Q (.bl true) H'
theorem ok_arewishes (D : Dx K mg "are_wishes" s_arewishes p_arewishes) (T : Tx mg base D.cdv) (Di : Dx K mg "is_in" s_isin p_isin) (B : Bz mg) : FnOk P w K mg base CX0 2 D.f D.fd p_arewishes (spAreWishes T.P) := by
  refine D.F.ok sc_arewishes (fun vs H Q E h => ?_) (fun A outer s H vs Q E hr h => ?_)
  · obtain ⟨n, a, l, rfl, _⟩ := h
    rfl
  · obtain ⟨n, a, l, rfl, ha, hl, hlen, hT, q⟩ := h
    obtain ⟨c, Pt, hc, TB⟩ := T
    refine ⟨_, pss_one (ps_ret (pe_and (pe_callB call_isi (by rfl) B.isi (by decide +kernel) (pa_cons (pv 1) (pa_cons (pe_bltn (v := .ty "tuple") (u := .type "tuple") (by rfl) B.tuple (by decide +kernel) rfl) pa_nil)))
      (pe_and (pe_cmpR op_le (pe_callB call_len_seq (by rfl) B.len PySem.boot_len (pa_cons (pv 1) pa_nil)) (pv 0) (nomark _))
        (pe_one (pe_allG hr (by rfl) B.all TB hc (genS_mk rfl rfl rfl (by decide +kernel) rfl rfl (by decide +kernel)) (pv 1) (fun _ => rfl)))))), ?_⟩
    have ha2 : H a = some (.tup ((l.map fun n : Nat => (n : Int)).map V.int)) := by rw [ha, nV_eq]
    refine ⟨.ref a, rfl, .ref a, .ty "tuple", .type "tuple", .type "tuple", true, rfl, .ty _, .base (.tup ha), kit_ty (by decide +kernel), true, rfl, iteT ?_⟩
    refine ⟨.ref a, rfl, a, nV l, rfl, .inr (SqT.of ha), .int (n : Int), rfl, ((nV l).length : Int), (n : Int), rfl, rfl, true, ?_, iteT ?_⟩
    · rw [nV_len]
      exact congrArg V.bl (decide_eq_true (show (l.length : Int) ≤ (n : Int) by omega))
    refine ⟨.ref a, rfl, hT, _, PfL (l.map fun n : Nat => (n : Int)), pbL (l.map fun n : Nat => (n : Int)) fun z => isinB z 0 ((n : Int) - 1), fun pins s1 u I r => ⟨src_ints I r ha2, elt_isin hr I hT Di.F Di.g B.isi B.int B.bool rfl rfl rfl rfl (fun _ => rfl) rfl rfl rfl fun i v hv => ?_⟩, fun H2 hT2 => ?_⟩
    · obtain ⟨z, t, e, rfl⟩ := hv
      exact ⟨z, t, rfl, by unfold pbL; rw [e]⟩
    have k2 : Kp H H2 := Kp.tabbed hT hT2
    have e1 : (l.map fun n : Nat => (n : Int)).all (fun z => isinB z 0 ((n : Int) - 1)) = true := by
      rw [List.all_eq_true]
      intro z hz
      obtain ⟨x, hx, rfl⟩ := List.mem_map.mp hz
      exact isin_nat x n (hl x hx)
    rw [all_pbL, e1]
    exact q H2 k2
def spNeedWishes (P : Addr) : Sp := fun vs H Q _ => ∃ (n : Nat) (a : Addr) (l : List Nat), vs = [.int (n : Int), .ref a] ∧ 2 ≤ n ∧ n ≤ 9 ∧ H a = some (.tup (nV l)) ∧ (∀ x ∈ l, x < n) ∧ l.length ≤ n ∧ TabG H P ∧ ∀ H', Kp H H' → Q .non H'
theorem ok_needwishes (D : Dx K mg "need_wishes" s_needwishes p_needwishes) (Dn : Dx K mg "need_size" s_needsize p_needsize) (Da : Dx K mg "are_wishes" s_arewishes p_arewishes) (T : Tx mg base Da.cdv) (Di : Dx K mg "is_in" s_isin p_isin) (B : Bz mg) : FnOk P w K mg base CX0 3 D.f D.fd p_needwishes (spNeedWishes T.P) := by
  refine D.F.ok sc_needwishes (fun vs H Q E h => ?_) (fun A outer s H vs Q E hr h => ?_)
  · obtain ⟨n, a, l, rfl, _⟩ := h
    rfl
  · obtain ⟨n, a, l, rfl, h2, h9, ha, hl, hlen, hT, q⟩ := h
    refine ⟨_, pss_cons (ps_expr (pe_call (ok_needsize Dn Di B) hr rfl Dn.g Dn.F.kp Dn.b .nil pass0 (pa_cons (pv 0) pa_nil)))
      (pss_one (ps_if (pt_not (pt_val (pe_call (ok_arewishes Da T Di B) hr rfl Da.g Da.F.kp Da.b .nil pass0 (pa_cons (pv 0) (pa_cons (pv 1) pa_nil))))) pss_never pss_nil)), ?_⟩
    refine ⟨.int (n : Int), rfl, n, rfl, h2, h9, ?_⟩
    refine ⟨.int (n : Int), rfl, .ref a, rfl, n, a, l, rfl, ha, hl, hlen, hT, fun H1 k1 => ⟨true, rfl, iteF ?_⟩⟩
    exact q H1 k1
end
end K91
namespace K91
open PySem PySem.Spec PyProof.Rows L2
open GxR (TabB TabG Tabbed inv_tab sh_eta GenS keeps_refl keeps_tok)
/-- a list or a tuple of these -/
def Sq (H : Hp) (a : Addr) (xs : List V) : Prop := H a = some (.lst xs) ∨ H a = some (.tup xs)
theorem Kp.sq {H H' : Hp} {a : Addr} {xs : List V} (k : Kp H H') (h : Sq H a xs) : Sq H' a xs := by
  rcases h with h | h
  · exact .inl (k.lst h)
  · exact .inr (k.tup h)
theorem emod_nat (a n : Nat) : (a : Int) % (n : Int) = ((a % n : Nat) : Int) := (Int.natCast_emod a n).symm
section
variable {P : Program} {w : World} {K : PySem.W.Frag} {mg : Str → Option Value} {base : Heap}
/-! ### spots_of -/
def spSpots : Sp := fun vs H Q _ => ∃ (n : Nat) (a : Addr) (ls : List Nat), vs = [.int (n : Int), .ref a] ∧ Sq H a (nV ls) ∧ (∀ x ∈ ls, x < n) ∧ ls.length ≤ n ∧ 1 ≤ n ∧ n ≤ 9 ∧ ∀ H' p, Kp H H' → H p = none → H' p = some (.lst (nV (spots n ls))) → Q (.ref p) H'
theorem ok_spots (D : Dx K mg "spots_of" s_spotsof p_spotsof) : FnOk P w K mg base CX0 1 D.f D.fd p_spotsof spSpots := by
  refine D.F.ok sc_spotsof (fun vs H Q E h => ?_) (fun A outer s H vs Q E hr h => ?_)
  · obtain ⟨n, a, l, rfl, _⟩ := h
    rfl
  · obtain ⟨n, a, ls, rfl, ha, hl, hlen, hn1, hn9, q⟩ := h
    have hu := hu_of hr
    -- the loop, over whatever is walked
    have key : ∀ (fo tk : Addr) (J : It) (G : Hp → Prop), H fo = none → H tk = none → fo ≠ tk → Walk J (nV ls).length G (YAt (nV ls)) → (∀ H1, Kp H H1 → G H1) →
        ∀ (D : Ends), (∀ H', Kp H H' → H' fo = some (.lst (nV (spots n ls))) → ∀ y4, D.nx [some (.int (n : Int)), some (.ref a), some (.ref fo), some (.ref tk), y4] H') →
        ∃ W : Nat → Nat → L2.St → Hp → Prop, (∃ m, W 0 m [some (.int (n : Int)), some (.ref a), some (.ref fo), some (.ref tk), none] (upd (upd H fo (.lst [])) tk (.dK []))) ∧ ∀ i m σ H, W i m σ H →
          (J.stop i H ∧ D.nx σ H) ∨ (J.go i H ∧ ∃ N : L2.St → Hp → Prop, (∀ σ' H', N σ' H' → ∃ m', m' < m ∧ W (i + 1) m' σ' H') ∧ ∀ x H', J.yld i H x H' → gName 4 x σ H' fun σ2 H2 =>
            tSeq (tWhile (tB (tDIn (tVar 4) (tVar 3))) (tAsg (tOp (rI (fun _ j => 0 < j) fun i j => .int (i % j)) (tOp (rI0 fun i j => .int (i + j)) (tVar 4) (tC (.int 1))) (tVar 0)) (gName 4)))
              (tSeq (sDPut (tVar 3) (tVar 4) (tC (.bl true))) (tDrop (tBM K "list" rAppend (tVar 2) (tCons (tVar 4) tNil)))) { D with nx := N, ct := N, bk := D.nx } σ2 H2) := by
      intro fo tk J G nfo ntk nft W hG D hD
      refine for_it W (fun i σ H' => ∃ y4 kvs, σ = [some (.int (n : Int)), some (.ref a), some (.ref fo), some (.ref tk), y4] ∧ Kp H H' ∧ H' fo = some (.lst (nV ((spots n ls).take i))) ∧ H' tk = some (.dK kvs) ∧ kvs.length ≤ i ∧ ∀ x : Nat, (valV kvs (Sum.inl (x : Int))).isSome = mem x ((spots n ls).take i).reverse)
        ⟨none, [], rfl, ((Kp.refl H).mut nfo).mut ntk, ?_, upd_same, Nat.le_refl _, fun x => rfl⟩ (fun i σ H' _ ⟨_, _, _, k, _⟩ => hG H' k) (fun i x σ H1 H2 hi hp y => ?_) (fun σ H' hp => ?_)
      · rw [upd_ne nft, upd_same]
        rfl
      · obtain ⟨y4, kvs, rfl, k1, e1, e2, hk, hv⟩ := hp
        obtain ⟨rfl, gx⟩ := y
        rw [nV_len] at hi
        have g : ls[i]? = some ls[i] := List.getElem?_eq_getElem hi
        have gx2 := (nV_get g).symm.trans gx
        cases gx2
        have hw : ls[i] < n := hl _ (List.getElem_mem hi)
        have gs := spots_get (n := n) g
        generalize hS : spots n ls = S at e1 hv gs hD ⊢
        have tl : (S.take i).reverse.length < n := by rw [List.length_reverse, List.length_take]; omega
        generalize hT : (S.take i).reverse = t at hv gs tl
        have free := nextF_ok tl hw
        -- while wish in taken
        refine ⟨fun f σ' H9 => H9 = H2 ∧ ∃ w' : Nat, w' < n ∧ σ' = [some (.int (n : Int)), some (.ref a), some (.ref fo), some (.ref tk), some (.int (w' : Int))] ∧ nextF n t f w' = nextF n t n ls[i], ⟨n, rfl, ls[i], hw, rfl, rfl⟩, ?_⟩
        rintro f σ' H' ⟨rfl, w', hw', rfl, ef⟩
        refine ⟨.int (w' : Int), rfl, .ref tk, rfl, tk, _, rfl, DGet.k (k := Sum.inl (w' : Int)) e2, _, rfl, ?_⟩
        rw [hv w']
        cases hm : mem w' t with
        | true =>
          cases f with
          | zero =>
            have e : w' = nextF n t n ls[i] := ef
            rw [← e, hm] at free
            cases free
          | succ f =>
            have ef' : nextF n t f ((w' + 1) % n) = nextF n t n ls[i] := (nextF_t hm).symm.trans ef
            refine iteT ⟨fun σ' H9 => H9 = H' ∧ ∃ w' : Nat, w' < n ∧ σ' = [some (.int (n : Int)), some (.ref a), some (.ref fo), some (.ref tk), some (.int (w' : Int))] ∧ nextF n t f w' = nextF n t n ls[i], fun σ' H' h => ⟨f, Nat.lt_succ_self f, h⟩, ?_⟩
            refine ⟨.int (w' : Int), rfl, (w' : Int), 1, rfl, rfl, .int (n : Int), rfl, (w' : Int) + 1, (n : Int), rfl, rfl, (by show (0 : Int) < (n : Int); omega), rfl, (w' + 1) % n, Nat.mod_lt _ (by omega), ?_, ef'⟩
            show [some (V.int (n : Int)), some (.ref a), some (.ref fo), some (.ref tk), some (.int (((w' : Int) + 1) % (n : Int)))] = _
            rw [show (w' : Int) + 1 = ((w' + 1 : Nat) : Int) by omega, emod_nat]
        | false =>
          have es : w' = nextF n t n ls[i] := (nextF_f hm).symm.trans ef
          rw [← es] at gs
          refine iteF ?_
          refine ⟨.ref tk, rfl, .int (w' : Int), rfl, tk, _, rfl, DPut.k (k := Sum.inl (w' : Int)) e2 (Nat.lt_of_le_of_lt hk (small1000 (by omega))), ?_⟩
          have e1' : (upd H' tk (.dK (putK kvs (Sum.inl (w' : Int)) (.bl true)))) fo = some (.lst (nV (S.take i))) := by rw [upd_ne nft]; exact e1
          refine ⟨.ref fo, rfl, .inl ⟨rfl, _, SqL.of e1'⟩, .int (w' : Int), rfl, fo, _, _, rfl, rfl, e1', ?_, ?_⟩
          · rw [nV_len, List.length_take]
            exact small1000 (by omega)
          · refine ⟨some (.int (w' : Int)), putK kvs (Sum.inl (w' : Int)) (.bl true), rfl, (k1.mut ntk).mut nfo, ?_, ?_, ?_, fun x => ?_⟩
            · rw [upd_same, List.take_add_one, gs]
              show some (HO.lst (nV (S.take i) ++ [V.int (w' : Int)])) = some (.lst (nV (S.take i ++ [w'])))
              unfold nV
              rw [List.map_append]
              rfl
            · rw [upd_ne nft.symm, upd_same]
            · exact Nat.le_trans (length_putK _ _ _) (Nat.succ_le_succ hk)
            · rw [take_rev gs, hT, valV_put]
              unfold mem
              cases hb : Nat.beq x w' with
              | true =>
                have e : x = w' := Nat.eq_of_beq_eq_true hb
                rw [e, if_pos rfl]
                rfl
              | false =>
                have e : x ≠ w' := Nat.ne_of_beq_eq_false hb
                rw [if_neg (fun z => e (by have := Sum.inl.inj z; omega))]
                exact hv x
      · obtain ⟨y4, kvs, rfl, k1, e1, _⟩ := hp
        refine hD H' k1 ?_ y4
        rw [e1, nV_len, ← spots_len n ls, List.take_length]
    rcases ha with ha | ha
    · -- a list
      refine ⟨_, pss_cons (ps_par (i := 2) (j := 3) rfl sc_spotsof.nd rfl rfl (by decide) rfl rfl (pa_cons (pe_lst pa_nil) (pa_cons pe_dnewK pa_nil)) (by rfl))
        (pss_cons (ps_for PassesOwn.never rfl (pi_list (pv 1)) (pg_name (i := 4) sc_spotsof.nd rfl (.inl rfl))
          (pss_cons (ps_while PassesOwn.never (pt_cmp (pc_din hu (pv 4) (pv 3))) (pss_one (ps_set (i := 4) sc_spotsof.nd rfl (.inl rfl) (pe_op op_mod (pe_op op_add (pv 4) pe_int) (pv 0)))))
            (pss_cons (ps_dput hu (pv 3) (pv 4) pe_bl rfl)
              (pss_one (ps_expr (pe_bm PySem.F.plainAttrs_list PySem.F.slot_list_append PySem.F.type_list_append mt_append (pv 2) (pa_cons (pv 4) pa_nil)))))))
        (pss_one (ps_ret (pv 2)))), ?_⟩
      refine ⟨Nat.zero_le _, fun fo nfo tk ntk => ⟨_, _, rfl, ?_⟩⟩
      have nft : fo ≠ tk := fun z => by
        rw [← z, upd_same] at ntk
        cases ntk
      rw [upd_ne nft.symm] at ntk
      have k0 : Kp H (upd (upd H fo (.lst [])) tk (.dK [])) := ((Kp.refl H).mut nfo).mut ntk
      exact ⟨.ref a, rfl, a, rfl, ⟨_, SqL.of (k0.lst ha)⟩, key fo tk _ _ nfo ntk nft walk_list (fun H1 k => SqL.of (k.lst ha)) _ fun H' k e y4 => ⟨.ref fo, rfl, q H' fo k nfo e⟩⟩
    · -- a tuple
      refine ⟨_, pss_cons (ps_par (i := 2) (j := 3) rfl sc_spotsof.nd rfl rfl (by decide) rfl rfl (pa_cons (pe_lst pa_nil) (pa_cons pe_dnewK pa_nil)) (by rfl))
        (pss_cons (ps_for PassesOwn.never rfl (pi_tup (pv 1)) (pg_name (i := 4) sc_spotsof.nd rfl (.inl rfl))
          (pss_cons (ps_while PassesOwn.never (pt_cmp (pc_din hu (pv 4) (pv 3))) (pss_one (ps_set (i := 4) sc_spotsof.nd rfl (.inl rfl) (pe_op op_mod (pe_op op_add (pv 4) pe_int) (pv 0)))))
            (pss_cons (ps_dput hu (pv 3) (pv 4) pe_bl rfl)
              (pss_one (ps_expr (pe_bm PySem.F.plainAttrs_list PySem.F.slot_list_append PySem.F.type_list_append mt_append (pv 2) (pa_cons (pv 4) pa_nil)))))))
        (pss_one (ps_ret (pv 2)))), ?_⟩
      refine ⟨Nat.zero_le _, fun fo nfo tk ntk => ⟨_, _, rfl, ?_⟩⟩
      have nft : fo ≠ tk := fun z => by
        rw [← z, upd_same] at ntk
        cases ntk
      rw [upd_ne nft.symm] at ntk
      have k0 : Kp H (upd (upd H fo (.lst [])) tk (.dK [])) := ((Kp.refl H).mut nfo).mut ntk
      exact ⟨.ref a, rfl, a, rfl, ⟨_, SqT.of (k0.tup ha)⟩, key fo tk _ _ nfo ntk nft walk_tup (fun H1 k => SqT.of (k.tup ha)) _ fun H' k e y4 => ⟨.ref fo, rfl, q H' fo k nfo e⟩⟩
end
end K91
namespace K91
open PySem PySem.Spec PyProof.Rows L2
open GxR (TabB TabG Tabbed inv_tab sh_eta GenS keeps_refl keeps_tok)
/-! ### zip of a list and a tuple -/
/-- the list at a, the tuple at b, their items in new pairs -/
def ItM (K : PySem.W.Frag) (a b : Addr) : It where
  go i H := ∃ xs ys : List V, SqL K H a xs ∧ SqT K H b ys ∧ i < xs.length ∧ i < ys.length
  yld i H v H' := ∃ T x y, v = .ref T ∧ H T = none ∧ H' = upd H T (.tup [x, y]) ∧ (∀ xs, SqL K H a xs → xs[i]? = some x) ∧ ∀ ys, SqT K H b ys → ys[i]? = some y
  stop i H := ∃ xs ys : List V, SqL K H a xs ∧ SqT K H b ys ∧ i = min xs.length ys.length
/-- the iterators' own cells ahead of turn i -/
def StM (a b N i : Nat) (h : Heap) : Prop := IsZip h (N + 4) (N + 2) (N + 3) .none ∧ IsTupOf2 h (N + 2) (.ref N) (.ref (N + 1)) ∧ (∃ u v, IsTupOf2 h (N + 3) u v) ∧ h.IsListIter N a i ∧ h.IsTupleIter (N + 1) b i
abbrev cellsM (N : Nat) : List Addr := [N + 4, N + 2, N + 3, N, N + 1]
section
variable {P : Program} {w : World} {K : PySem.W.Frag} {a b N : Nat}
theorem turnM {elts : List Expr} {kk : Nat} {tpos : Pos} (ha : a < N) (hb : b < N) : Turn P w K (.Tuple elts kk tpos) (ItM K a b) (cellsM N) (N + 4) (StM a b N) where
  mem := List.mem_cons_self ..
  obj := fun i h ⟨hz, hT, ⟨u, v, hO⟩, ⟨o1, e1, _, d1⟩, ⟨o2, e2, _, d2⟩⟩ c hc => by
    simp only [cellsM, List.mem_cons, List.not_mem_nil, or_false] at hc
    rcases hc with rfl | rfl | rfl | rfl | rfl
    · exact ⟨_, hz, nofun⟩
    · exact ⟨_, hT, nofun⟩
    · exact ⟨_, hO, nofun⟩
    · exact ⟨o1, e1, by rw [d1]; exact nofun⟩
    · exact ⟨o2, e2, by rw [d2]; exact nofun⟩
  keep := fun i h h' ⟨hz, hT, ⟨u, v, hO⟩, h1, h2⟩ k =>
    ⟨k _ (by simp [cellsM]) _ hz, k _ (by simp [cellsM]) _ hT, ⟨u, v, k _ (by simp [cellsM]) _ hO⟩, h1.at fun o q => k _ (by simp [cellsM]) o q, h2.at fun o q => k _ (by simp [cellsM]) o q⟩
  item := by
    rintro X rfl rfl rfl hc i pins s σ H E I hf ⟨hz, hT, hO, h1, h2⟩ ⟨xs, ys, qx, qy, lx, ly⟩
    obtain ⟨is, rv, pl, _⟩ := I.list qx
    obtain ⟨js, rw', pt, _⟩ := I.tuple qy
    have e1 := rv.length
    have e2 := rw'.length
    have W := WalksT.zipD2 (prog := X.prog) (w := X.w) (A := X.A) (zip_sep2 (N := N) (fp1 := [a]) (fp2 := [b]) (fun c hc => by rw [List.mem_singleton.mp hc]; exact ha) fun c hc => by rw [List.mem_singleton.mp hc]; exact hb)
      (Draws.list (A := X.A.in1) (I.ok.hd hc) N a (Nat.ne_of_lt ha) is.toArray) (Draws.tuple (A := X.A.in1) (I.ok.hd hc) (N + 1) b (Nat.ne_of_lt (Nat.lt_succ_of_lt hb)) js.toArray)
    refine W.item i s _ E (by simp only [List.size_toArray]; omega) ⟨hz, hT, hO, ⟨h1, pl.isList⟩, ⟨h2, pt⟩⟩ fun T vals h' tk hp hTn hIs hmid hk => ⟨_, rfl, ?_⟩
    obtain ⟨u1, u2, g1, g2, rfl⟩ := hp
    have apart := W.apart i T h' hmid
    refine W.go elts kk tpos i T { s with heap := h', toks := tk } _ E hmid fun h'' st hk2 => ?_
    obtain ⟨hz2, hT2, hO2, ⟨h12, _⟩, ⟨h22, _⟩⟩ := st
    obtain ⟨x, hx⟩ : ∃ x, xs[i]? = some x := ⟨xs[i], List.getElem?_eq_getElem lx⟩
    obtain ⟨y, hy⟩ : ∃ y, ys[i]? = some y := ⟨ys[i], List.getElem?_eq_getElem ly⟩
    obtain ⟨v1, f1, r1⟩ := rv.get hx
    obtain ⟨v2, f2, r2⟩ := rw'.get hy
    have g1' : is[i]? = some u1 := by simpa using g1
    have g2' : js[i]? = some u2 := by simpa using g2
    rw [f1] at g1'
    rw [f2] at g2'
    cases g1'
    cases g2'
    obtain ⟨oT, eT, cT, nT, dT⟩ := hIs
    have new : ObjOk X.prog X.w (upd H T (.tup [x, y])) h'' T (.tup [x, y]) := ⟨(by decide : 2 ≤ sizeLine), [_, _], .cons r1 (.cons r2 .nil), oT, hk2 T oT apart eT, cT, nT, dT⟩
    have sub : ∀ c : Addr, c ∉ cellsM N → c ∉ [N + 4, N + 3, N, N + 1] := fun c hc z => hc (by simp only [cellsM, List.mem_cons, List.not_mem_nil, or_false] at z ⊢; rcases z with z | z | z | z <;> simp [z])
    have I2 : Inv X pins σ (upd H T (.tup [x, y])) { s with heap := h'', toks := tk } := I.turnedNew (ch := cellsM N) (fun c o hc e => hk2 c o (sub c hc) (hk c o (sub c hc) e)) hf hTn new
    have fr : H T = none := I.hok.fresh hTn
    refine ⟨.ref T, _, I2, rfl, ⟨T, x, y, rfl, fr, rfl, fun zs q => by rw [I.list_inj q qx]; exact hx, fun zs q => by rw [I.tuple_inj q qy]; exact hy⟩, ⟨hz2, hT2, hO2, h12, h22⟩, fun c hcm => ?_⟩
    have hold : ∃ o, s.heap.get? c = some o := by
      simp only [cellsM, List.mem_cons, List.not_mem_nil, or_false] at hcm
      obtain ⟨u, v, hO⟩ := hO
      obtain ⟨o1, k1, _⟩ := h1
      obtain ⟨o2, k2, _⟩ := h2
      rcases hcm with rfl | rfl | rfl | rfl | rfl
      · exact ⟨_, hz⟩
      · exact ⟨_, hT⟩
      · exact ⟨_, hO⟩
      · exact ⟨_, k1⟩
      · exact ⟨_, k2⟩
    obtain ⟨o, ho⟩ := hold
    rw [upd_ne (Nat.ne_of_lt (Nat.lt_of_lt_of_le (Heap.lt_size ho) hTn))]
    exact (hf c hcm).1
  done := by
    rintro X rfl rfl rfl hc i pins s σ H E I hf ⟨hz, hT, hO, h1, h2⟩ ⟨xs, ys, qx, qy, rfl⟩
    obtain ⟨is, rv, pl, _⟩ := I.list qx
    obtain ⟨js, rw', pt, _⟩ := I.tuple qy
    have W := WalksT.zipD2 (prog := X.prog) (w := X.w) (A := X.A) (zip_sep2 (N := N) (fp1 := [a]) (fp2 := [b]) (fun c hc => by rw [List.mem_singleton.mp hc]; exact ha) fun c hc => by rw [List.mem_singleton.mp hc]; exact hb)
      (Draws.list (A := X.A.in1) (I.ok.hd hc) N a (Nat.ne_of_lt ha) is.toArray) (Draws.tuple (A := X.A.in1) (I.ok.hd hc) (N + 1) b (Nat.ne_of_lt (Nat.lt_succ_of_lt hb)) js.toArray)
    simp only [List.size_toArray, ← rv.length, ← rw'.length] at W
    have sub : ∀ c : Addr, c ∉ cellsM N → c ∉ [N + 4, N + 3, N, N + 1] := fun c hc z => hc (by simp only [cellsM, List.mem_cons, List.not_mem_nil, or_false] at z ⊢; rcases z with z | z | z | z <;> simp [z])
    exact W.done s _ E ⟨hz, hT, hO, ⟨h1, pl.isList⟩, ⟨h2, pt⟩⟩ fun h' tk hk => ⟨rfl, I.turnedL (ch := cellsM N) (fun c o hc e => hk c o (sub c hc) e) hf⟩
  self := fun A i s Q E st h => wpAny_pyIter_zip st.1 h
def iM (K : PySem.W.Frag) (ta : TA) : TI := fun σ H R => ta σ H fun vs H1 => ∃ (a b : Addr) (xs ys : List V), vs = [.ref a, .ref b] ∧ SqL K H1 a xs ∧ SqT K H1 b ys ∧ R (ItM K a b) H1
theorem pi_M {X : Cx} {e e2 : Expr} {ta : TA} {p pos tpos : Pos} {elts : List Expr} {kk : Nat} (hg : Gl X "zip") (hm : X.mg "zip" = none) (ht : PA X [e, e2] ta)
    (h1 : starEach [e, e2] X.env = (false, eval e X.env) :: starEach [e2] X.env := by rfl) (h2 : (backTo pos (starEach [e2] X.env)).any (·.1) = false := by rfl) :
    PI X (.Tuple elts kk tpos) (.Call (.Name "zip" p) [e, e2] [] pos) (iM X.K ta) := by
  refine ⟨fun pins s σ H R I h => Call_ (ld_blt I hg hm PyProof.Rows.boot_zip (PyProof.Rows.callWith_type1 (thn (ht.run pos pins s σ H _ I h) fun us s1 ⟨vs, H1, I1, r1, q1⟩ => ?_) h1 h2))⟩
  obtain ⟨a, b, xs, ys, rfl, qx, qy, q⟩ := q1
  obtain ⟨u1, u2, rfl, ra, rb⟩ := vals2 r1
  cases ra
  cases rb
  obtain ⟨is, rv, pl, _⟩ := I1.list qx
  obtain ⟨js, rw', pt, _⟩ := I1.tuple qy
  have pt' : s1.heap.IsTuple b js.toArray := pt
  obtain ⟨ob, eb, _⟩ := id pt'
  refine zip_begins2 (begins_list a is.toArray) (begins_tuple b js.toArray) pl.isList pt' fun h' hz hT hO g1 g2 hsz hk => wpAny_pyIter_zip hz ?_
  refine ⟨s1.heap.objs.size + 4, cellsM s1.heap.objs.size, StM a b s1.heap.objs.size, _, H1, rfl, I1.kept (t' := s1.toks) hk, turnM pl.lt (Heap.lt_size eb), ⟨hz, hT, ⟨_, _, hO⟩, ⟨_, g1, rfl, rfl⟩, ⟨_, g2, rfl, rfl⟩⟩, fun c hc => ?_, q⟩
  have le : s1.heap.objs.size ≤ c := by
    simp only [cellsM, List.mem_cons, List.not_mem_nil, or_false] at hc
    rcases hc with rfl | rfl | rfl | rfl | rfl <;> first | exact Nat.le_add_right _ _ | exact Nat.le_refl _
  exact I1.fpOk le (I1.hok.fresh le)
theorem walk_M {xs ys : List V} {n : Nat} (hn : n = min xs.length ys.length) : Walk (ItM K a b) n (fun H => SqL K H a xs ∧ SqT K H b ys) (YPair (fun i => xs[i]?) (fun i => ys[i]?)) := by
  subst hn
  refine ⟨fun i H hi q => ⟨xs, ys, q.1, q.2, by omega, by omega⟩, fun H q => ⟨xs, ys, q.1, q.2, rfl⟩, fun i H v H' hi q y => ?_⟩
  obtain ⟨T, x, z, e1, e2, e3, e4, e5⟩ := y
  exact ⟨T, x, z, e1, e2, e3, e4 xs q.1, e5 ys q.2⟩
end
end K91
namespace K91
open PySem PySem.Spec PyProof.Rows L2
open GxR (TabB TabG Tabbed inv_tab sh_eta GenS keeps_refl keeps_tok)
/-! ### comprehensions whose turns let all stand -/
section
variable {J : It} {n : Nat} {G : Hp → Prop} {Y : Nat → Hp → V → Hp → Prop} {g : TG} {tt : TT} {te : TE} {vs : List Nat} {σ : L2.St} {H1 : Hp} {D : Addr} {Qd : Hp → Prop}
/-- R: what is known of the list so far; it does not lean on D -/
theorem lc_R (w : Walk J n G Y) (R : Nat → List V → Hp → Prop) (hD : H1 D = none) (hG : ∀ H, Kp H1 H → G H) (h0 : ∀ H, Kp H1 H → R 0 [] H) (hR : ∀ i xs H zs zs', R i xs H → H D = some (.lst zs) → R i xs (upd H D (.lst zs')))
    (hs : ∀ i x H H' xs, i < n → Kp H1 H → H D = some (.lst xs) → R i xs H → Y i H x H' → ∀ (C : V → Hp → Prop) (C' : Hp → Prop), (∀ y H4, Kp H H4 → xs.length < sizeLine → R (i + 1) (xs ++ [y]) H4 → C y H4) → (∀ H3, Kp H H3 → R (i + 1) xs H3 → C' H3) →
      g x (wipe σ vs) H' fun σ2 H2 => wipe σ2 vs = wipe σ vs ∧ tt σ2 H2 fun b H3 => if b = true then te σ2 H3 C else C' H3)
    (hd : ∀ H xs, Kp H1 H → H D = some (.lst xs) → R n xs H → Qd H) :
    ∃ W : Nat → Nat → Hp → Prop, (∃ m, W 0 m (upd H1 D (.lst []))) ∧ ∀ i m H, W i m H →
      (J.stop i H ∧ Qd H) ∨ (J.go i H ∧ ∃ Nx : Hp → Prop, (∀ H', Nx H' → ∃ m', m' < m ∧ W (i + 1) m' H') ∧ ∀ x H', J.yld i H x H' → g x (wipe σ vs) H' fun σ2 H2 => wipe σ2 vs = wipe σ vs ∧ tt σ2 H2 fun b H3 =>
        if b = true then te σ2 H3 fun y H4 => ∃ acc, H4 D = some (.lst acc) ∧ acc.length < sizeLine ∧ Nx (upd H4 D (.lst (acc ++ [y]))) else Nx H3) := by
  refine lc_it w (fun i H => Kp H1 H ∧ ∃ xs, H D = some (.lst xs) ∧ R i xs H) ⟨(Kp.refl H1).mut hD, [], upd_same, h0 _ ((Kp.refl H1).mut hD)⟩ (fun i H _ p => hG H p.1) (fun i x H H' hi p y => ?_) fun H p => ?_
  · obtain ⟨k, xs, e, r⟩ := p
    refine hs i x H H' xs hi k e r y _ _ (fun v H4 k4 hz r4 => ?_) fun H3 k3 r3 => ⟨k.trans k3, xs, k3.lst e, r3⟩
    exact ⟨xs, k4.lst e, hz, (k.trans k4).mut hD, xs ++ [v], upd_same, hR _ _ _ xs _ r4 (k4.lst e)⟩
  · obtain ⟨k, xs, e, r⟩ := p
    exact hd H xs k e r
/-- the list by the turn -/
theorem lc_acc (w : Walk J n G Y) (acc : Nat → List V) (ha : acc 0 = []) (hz : ∀ i, i < n → (acc i).length < sizeLine) (hD : H1 D = none) (hG : ∀ H, Kp H1 H → G H)
    (hs : ∀ i x H H', i < n → Kp H1 H → Y i H x H' → ∀ (C : V → Hp → Prop) (C' : Hp → Prop), (∀ y H4, Kp H H4 → acc (i + 1) = acc i ++ [y] → C y H4) → (∀ H3, Kp H H3 → acc (i + 1) = acc i → C' H3) →
      g x (wipe σ vs) H' fun σ2 H2 => wipe σ2 vs = wipe σ vs ∧ tt σ2 H2 fun b H3 => if b = true then te σ2 H3 C else C' H3)
    (hd : ∀ H, Kp H1 H → H D = some (.lst (acc n)) → Qd H) :
    ∃ W : Nat → Nat → Hp → Prop, (∃ m, W 0 m (upd H1 D (.lst []))) ∧ ∀ i m H, W i m H →
      (J.stop i H ∧ Qd H) ∨ (J.go i H ∧ ∃ Nx : Hp → Prop, (∀ H', Nx H' → ∃ m', m' < m ∧ W (i + 1) m' H') ∧ ∀ x H', J.yld i H x H' → g x (wipe σ vs) H' fun σ2 H2 => wipe σ2 vs = wipe σ vs ∧ tt σ2 H2 fun b H3 =>
        if b = true then te σ2 H3 fun y H4 => ∃ acc, H4 D = some (.lst acc) ∧ acc.length < sizeLine ∧ Nx (upd H4 D (.lst (acc ++ [y]))) else Nx H3) :=
  lc_R w (fun i xs _ => xs = acc i) hD hG (fun _ _ => ha.symm) (fun _ _ _ _ _ r _ => r) (fun i x H H' xs hi k e r y C C' hC hC' => by
    subst r
    exact hs i x H H' hi k y C C' (fun v H4 k4 e4 => hC v H4 k4 (hz i hi) e4.symm) fun H3 k3 e3 => hC' H3 k3 e3.symm) fun H xs k e r => by
    subst r
    exact hd H k e
end
/-! ### lists of lists: each item a new object -/
inductive Al2 {α β : Type} (F : α → β → Prop) : List α → List β → Prop where
  | nil : Al2 F [] []
  | cons {a : α} {b : β} {as : List α} {bs : List β} (h : F a b) (t : Al2 F as bs) : Al2 F (a :: as) (b :: bs)
theorem Al2.imp {α β : Type} {F G : α → β → Prop} : ∀ {as : List α} {bs : List β}, Al2 F as bs → (∀ a b, F a b → G a b) → Al2 G as bs
  | _, _, .nil, _ => .nil
  | _, _, .cons h t, f => .cons (f _ _ h) (t.imp f)
theorem Al2.append {α β : Type} {F : α → β → Prop} : ∀ {as as' : List α} {bs bs' : List β}, Al2 F as bs → Al2 F as' bs' → Al2 F (as ++ as') (bs ++ bs')
  | _, _, _, _, .nil, s => s
  | _, _, _, _, .cons h t, s => .cons h (t.append s)
theorem Al2.length {α β : Type} {F : α → β → Prop} : ∀ {as : List α} {bs : List β}, Al2 F as bs → as.length = bs.length
  | _, _, .nil => rfl
  | _, _, .cons _ t => congrArg Nat.succ t.length
theorem Al2.get {α β : Type} {F : α → β → Prop} : ∀ {as : List α} {bs : List β} {i : Nat} {b : β}, Al2 F as bs → bs[i]? = some b → ∃ a, as[i]? = some a ∧ F a b
  | _, _, _, _, .nil, e => by simp at e
  | _, _, 0, _, .cons h _, e => by
    simp at e
    subst e
    exact ⟨_, rfl, h⟩
  | _, _, i + 1, b, .cons _ t, e => by
    obtain ⟨a, e1, e2⟩ := t.get (i := i) (b := b) (by simpa using e)
    exact ⟨a, by simpa using e1, e2⟩
theorem Al2.get' {α β : Type} {F : α → β → Prop} : ∀ {as : List α} {bs : List β} {i : Nat} {a : α}, Al2 F as bs → as[i]? = some a → ∃ b, bs[i]? = some b ∧ F a b
  | _, _, _, _, .nil, e => by simp at e
  | _, _, 0, _, .cons h _, e => by
    simp at e
    subst e
    exact ⟨_, rfl, h⟩
  | _, _, i + 1, b, .cons _ t, e => by
    obtain ⟨a, e1, e2⟩ := t.get' (i := i) (a := b) (by simpa using e)
    exact ⟨a, by simpa using e1, e2⟩
theorem Al2.snoc {α β : Type} {F : α → β → Prop} {as : List α} {bs : List β} {a : α} {b : β} (t : Al2 F as bs) (h : F a b) : Al2 F (as ++ [a]) (bs ++ [b]) := t.append (.cons h .nil)
/-- v is a new tuple, a new list, of these -/
def TupV (H : Hp) (v : V) (l : List Nat) : Prop := ∃ p, v = .ref p ∧ H p = some (.tup (nV l))
def LstV (H : Hp) (v : V) (l : List Nat) : Prop := ∃ p, v = .ref p ∧ H p = some (.lst (nV l))
abbrev Tups (H : Hp) (xs : List V) (ls : List (List Nat)) : Prop := Al2 (TupV H) xs ls
abbrev Lsts (H : Hp) (xs : List V) (ls : List (List Nat)) : Prop := Al2 (LstV H) xs ls
theorem Kp.tups {H H' : Hp} {xs : List V} {ls : List (List Nat)} (k : Kp H H') (t : Tups H xs ls) : Tups H' xs ls := t.imp fun _ _ ⟨p, e, h⟩ => ⟨p, e, k.tup h⟩
theorem Kp.lsts {H H' : Hp} {xs : List V} {ls : List (List Nat)} (k : Kp H H') (t : Lsts H xs ls) : Lsts H' xs ls := t.imp fun _ _ ⟨p, e, h⟩ => ⟨p, e, k.lst h⟩
theorem tups_upd {H : Hp} {D : Addr} {zs zs' : List V} {xs : List V} {ls : List (List Nat)} (t : Tups H xs ls) (h : H D = some (.lst zs)) : Tups (upd H D (.lst zs')) xs ls :=
  t.imp fun _ _ ⟨p, e, hp⟩ => ⟨p, e, by rw [upd_ne (ne_of hp h (by intro z; cases z))]; exact hp⟩
end K91
namespace K91
open PySem PySem.Spec PyProof.Rows L2
open GxR (TabB TabG Tabbed inv_tab sh_eta GenS keeps_refl keeps_tok)
theorem sub_mod_nat {a b n : Nat} (hb : b < n) : ((a : Int) - (b : Int)) % (n : Int) = (((a + n - b) % n : Nat) : Int) := by
  rw [Int.natCast_emod, Int.natCast_sub (by omega), Int.natCast_add, show (a : Int) + (n : Int) - (b : Int) = (a : Int) - (b : Int) + (n : Int) by omega, Int.add_emod_right]
theorem walks_len (n : Nat) (ls : List Nat) : (walks n ls).length = ls.length := by
  unfold walks
  rw [List.length_map, List.length_zip, spots_len, Nat.min_self]
theorem walks_get {n : Nat} {ls : List Nat} {i s w : Nat} (h1 : (spots n ls)[i]? = some s) (h2 : ls[i]? = some w) : (walks n ls)[i]? = some ((s + n - w) % n) := by
  unfold walks
  rw [List.getElem?_map, List.getElem?_zip_eq_some (z := (s, w)) |>.mpr ⟨h1, h2⟩]
  rfl
theorem nV_take {l : List Nat} {i x : Nat} (h : l[i]? = some x) : nV (l.take (i + 1)) = nV (l.take i) ++ [.int (x : Int)] := by
  rw [List.take_add_one, h]
  show nV (l.take i ++ [x]) = _
  unfold nV
  rw [List.map_append]
  rfl
section
variable {P : Program} {w : World} {K : PySem.W.Frag} {mg : Str → Option Value} {base : Heap}
/-! ### walks_of -/
def spWalks : Sp := fun vs H Q _ => ∃ (n : Nat) (a : Addr) (ls : List Nat), vs = [.int (n : Int), .ref a] ∧ Sq H a (nV ls) ∧ (∀ x ∈ ls, x < n) ∧ ls.length ≤ n ∧ 1 ≤ n ∧ n ≤ 9 ∧ ∀ H' p, Kp H H' → H p = none → H' p = some (.lst (nV (walks n ls))) → Q (.ref p) H'
theorem ok_walks (D : Dx K mg "walks_of" s_walksof p_walksof) (Ds : Dx K mg "spots_of" s_spotsof p_spotsof) (B : Bz mg) : FnOk P w K mg base CX0 2 D.f D.fd p_walksof spWalks := by
  refine D.F.ok sc_walksof (fun vs H Q E h => ?_) (fun A outer s H vs Q E hr h => ?_)
  · obtain ⟨n, a, l, rfl, _⟩ := h
    rfl
  · obtain ⟨n, a, ls, rfl, ha, hl, hlen, hn1, hn9, q⟩ := h
    have nd := sc_walksof.nd
    -- the turns, whatever is walked
    have key : ∀ (J : It) (G : Hp → Prop) (H1 : Hp) (D : Addr), Kp H H1 → H1 D = none → Walk J ls.length G (YPair (fun i => (nV (spots n ls))[i]?) (fun i => (nV ls)[i]?)) → (∀ H2, Kp H1 H2 → G H2) →
        ∃ W : Nat → Nat → Hp → Prop, (∃ m, W 0 m (upd H1 D (.lst []))) ∧ ∀ i m H, W i m H →
          (J.stop i H ∧ Q (.ref D) H) ∨ (J.go i H ∧ ∃ Nx : Hp → Prop, (∀ H', Nx H' → ∃ m', m' < m ∧ W (i + 1) m' H') ∧ ∀ x H', J.yld i H x H' → gTup K 2 (gCons (gName 2) (gCons (gName 3) gNil)) x (wipe (start n_walksof [.int (n : Int), .ref a]) [2, 3]) H' fun σ2 H2 => wipe σ2 [2, 3] = wipe (start n_walksof [.int (n : Int), .ref a]) [2, 3] ∧ tYes σ2 H2 fun b H3 =>
            if b = true then (tOp (rI (fun _ j => 0 < j) fun i j => .int (i % j)) (tOp (rI0 fun i j => .int (i - j)) (tVar 2) (tVar 3)) (tVar 0)) σ2 H3 fun y H4 => ∃ acc, H4 D = some (.lst acc) ∧ acc.length < sizeLine ∧ Nx (upd H4 D (.lst (acc ++ [y]))) else Nx H3) := by
      intro J G H1 D k1 nD W hG
      refine lc_acc W (fun i => nV ((walks n ls).take i)) rfl (fun i hi => by rw [nV_len, List.length_take]; exact small1000 (by omega)) nD hG (fun i x H2 H3 hi k2 y C C' hC _ => ?_) fun H2 k2 e => ?_
      · obtain ⟨T, x1, x2, rfl, nT, rfl, g1, g2⟩ := y
        have h2 : ls[i]? = some ls[i] := List.getElem?_eq_getElem hi
        have h1 := spots_get (n := n) h2
        generalize nextF n ((spots n ls).take i).reverse n ls[i] = sp at h1
        have hw : ls[i] < n := hl _ (List.getElem_mem hi)
        have e1 := (nV_get h1).symm.trans g1
        have e2 := (nV_get h2).symm.trans g2
        cases e1
        cases e2
        refine ⟨T, _, rfl, SqT.of upd_same, rfl, _, _, rfl, _, _, rfl, rfl, rfl, ?_⟩
        refine ⟨.int (sp : Int), rfl, .int (ls[i] : Int), rfl, _, _, rfl, rfl, .int (n : Int), rfl, _, _, rfl, rfl, (by show (0 : Int) < (n : Int); omega), ?_⟩
        show C (.int (((sp : Int) - (ls[i] : Int)) % (n : Int))) _
        rw [sub_mod_nat hw]
        exact hC _ _ (Kp.new nT) (nV_take (walks_get h1 h2))
      · refine q H2 D (k1.trans k2) (k1.free nD) ?_
        rw [e, ← walks_len n ls, List.take_length]
    have hm : ls.length = min (nV (spots n ls)).length (nV ls).length := by rw [nV_len, nV_len, spots_len, Nat.min_self]
    rcases ha with ha | ha
    · refine ⟨_, pss_one (ps_ret (pe_lc (own := [("spot", 2), ("wish", 3)]) (g := gTup K 2 (gCons (gName 2) (gCons (gName 3) gNil))) rfl nd (pi_zip (by rfl) B.zip (pa_cons (pe_call (ok_spots Ds) hr rfl Ds.g Ds.F.kp Ds.b .nil pass0 (pa_cons (pv 0) (pa_cons (pv 1) pa_nil))) (pa_cons (pv 1) pa_nil)))
        (blkOk_by (N := n_walksof) (sc := defScope s_walksof) (by decide +kernel)) (fun _ _ _ _ _ => pg_tup rfl (pgs_cons (pg_name (i := 2) nd rfl (.inl rfl) (.inr rfl)) (pgs_cons (pg_name (i := 3) nd rfl (.inl rfl) (.inr rfl)) pgs_nil))) (fun _ _ _ _ _ => pts_nil)
        (fun _ _ _ _ _ => pe_op op_mod (pe_op op_sub (pv 2) (pv 3)) (pv 0)))), ?_⟩
      refine ⟨.int (n : Int), rfl, .ref a, rfl, n, a, ls, rfl, .inl ha, hl, hlen, hn1, hn9, fun H1 p k1 np e1 => ?_⟩
      exact ⟨.ref a, rfl, p, a, _, _, rfl, SqL.of e1, SqL.of (k1.lst ha), fun D nD => key _ _ H1 D k1 nD (walk_zip hm) fun H2 k2 => ⟨SqL.of (k2.lst e1), SqL.of (k2.lst (k1.lst ha))⟩⟩
    · refine ⟨_, pss_one (ps_ret (pe_lc (own := [("spot", 2), ("wish", 3)]) (g := gTup K 2 (gCons (gName 2) (gCons (gName 3) gNil))) rfl nd (pi_M (by rfl) B.zip (pa_cons (pe_call (ok_spots Ds) hr rfl Ds.g Ds.F.kp Ds.b .nil pass0 (pa_cons (pv 0) (pa_cons (pv 1) pa_nil))) (pa_cons (pv 1) pa_nil)))
        (blkOk_by (N := n_walksof) (sc := defScope s_walksof) (by decide +kernel)) (fun _ _ _ _ _ => pg_tup rfl (pgs_cons (pg_name (i := 2) nd rfl (.inl rfl) (.inr rfl)) (pgs_cons (pg_name (i := 3) nd rfl (.inl rfl) (.inr rfl)) pgs_nil))) (fun _ _ _ _ _ => pts_nil)
        (fun _ _ _ _ _ => pe_op op_mod (pe_op op_sub (pv 2) (pv 3)) (pv 0)))), ?_⟩
      refine ⟨.int (n : Int), rfl, .ref a, rfl, n, a, ls, rfl, .inr ha, hl, hlen, hn1, hn9, fun H1 p k1 np e1 => ?_⟩
      exact ⟨.ref a, rfl, p, a, _, _, rfl, SqL.of e1, SqT.of (k1.tup ha), fun D nD => key _ _ H1 D k1 nD (walk_M hm) fun H2 k2 => ⟨SqL.of (k2.lst e1), SqT.of (k2.tup (k1.tup ha))⟩⟩
end
end K91
namespace K91
open PySem PySem.Spec PyProof.Rows L2
open GxR (TabB TabG Tabbed inv_tab sh_eta GenS keeps_refl keeps_tok)
theorem sum_nat : ∀ l : List Nat, (l.map fun n : Nat => (n : Int)).sum = ((l.sum : Nat) : Int)
  | [] => rfl
  | x :: r => by
    rw [List.map_cons, List.sum_cons, List.sum_cons, sum_nat r]
    omega
section
variable {P : Program} {w : World} {K : PySem.W.Frag} {mg : Str → Option Value} {base : Heap}
/-! ### whole_walk -/
def spWhole (P : Addr) : Sp := fun vs H Q _ => ∃ (n : Nat) (a : Addr) (ls : List Nat), vs = [.int (n : Int), .ref a] ∧ 2 ≤ n ∧ n ≤ 9 ∧ H a = some (.tup (nV ls)) ∧ (∀ x ∈ ls, x < n) ∧ ls.length ≤ n ∧ TabG H P ∧ ∀ H', Kp H H' → Q (.int (((walks n ls).sum : Nat) : Int)) H'
theorem ok_whole (D : Dx K mg "whole_walk" s_wholewalk p_wholewalk) (Dw : Dx K mg "need_wishes" s_needwishes p_needwishes) (Dk : Dx K mg "walks_of" s_walksof p_walksof) (Ds : Dx K mg "spots_of" s_spotsof p_spotsof) (Dn : Dx K mg "need_size" s_needsize p_needsize) (Da : Dx K mg "are_wishes" s_arewishes p_arewishes) (T : Tx mg base Da.cdv) (Di : Dx K mg "is_in" s_isin p_isin) (B : Bz mg) :
    FnOk P w K mg base CX0 4 D.f D.fd p_wholewalk (spWhole T.P) := by
  refine D.F.ok sc_wholewalk (fun vs H Q E h => ?_) (fun A outer s H vs Q E hr h => ?_)
  · obtain ⟨n, a, l, rfl, _⟩ := h
    rfl
  · obtain ⟨n, a, ls, rfl, h2, h9, ha, hl, hlen, hT, q⟩ := h
    refine ⟨_, pss_cons (ps_expr (pe_call (ok_needwishes Dw Dn Da T Di B) hr rfl Dw.g Dw.F.kp Dw.b .nil pass0 (pa_cons (pv 0) (pa_cons (pv 1) pa_nil))))
      (pss_one (ps_ret (pe_callB (cr_sum rfl) (by rfl) B.sum (by decide +kernel) (pa_cons (pe_call (ok_walks Dk Ds B) (hr.mono (by decide)) rfl Dk.g Dk.F.kp Dk.b .nil pass0 (pa_cons (pv 0) (pa_cons (pv 1) pa_nil))) pa_nil)))), ?_⟩
    refine ⟨.int (n : Int), rfl, .ref a, rfl, n, a, ls, rfl, h2, h9, ha, hl, hlen, hT, fun H1 k1 => ?_⟩
    refine ⟨.int (n : Int), rfl, .ref a, rfl, n, a, ls, rfl, .inr (k1.tup ha), hl, hlen, by omega, h9, fun H2 p k2 np e => ?_⟩
    refine ⟨p, (walks n ls).map fun n : Nat => (n : Int), rfl, SqL.of (by rw [e, nV_eq]), ?_⟩
    rw [sum_nat]
    exact q H2 (k1.trans k2)
/-! ### last_of, last_difference -/
def spLastOf : Sp := fun vs H Q _ => ∃ (a b : Addr) (wl ol : List Nat), vs = [.ref a, .ref b] ∧ H a = some (.tup (nV wl)) ∧ H b = some (.tup (nV ol)) ∧ wl.length ≤ 1000 ∧ ∀ H' p, Kp H H' → H' p = some (.tup (nV (lastD wl ol))) → Q (.ref p) H'
theorem filter_take {l : List Nat} {i x : Nat} (p : Nat → Bool) (h : l[i]? = some x) : (l.take (i + 1)).filter p = (l.take i).filter p ++ (if p x then [x] else []) := by
  rw [List.take_add_one, h, List.filter_append]
  cases hp : p x <;> simp [hp]
theorem ok_lastof (D : Dx K mg "last_of" s_lastof p_lastof) (B : Bz mg) : FnOk P w K mg base CX0 1 D.f D.fd p_lastof spLastOf := by
  refine D.F.ok sc_lastof (fun vs H Q E h => ?_) (fun A outer s H vs Q E hr h => ?_)
  · obtain ⟨a, b, wl, ol, rfl, _⟩ := h
    rfl
  · obtain ⟨a, b, wl, ol, rfl, ha, hb, hlen, q⟩ := h
    have nd := sc_lastof.nd
    refine ⟨_, pss_one (ps_ret (pe_callTy call_tuple_of (by rfl) B.tuple (by decide +kernel) (pa_cons (pe_lc (own := [("place", 2)]) (g := gName 2) (tt := tTest (tOp (rIn K true) (tVar 2) (tVar 1))) (te := tVar 2) rfl nd (pi_tup (pv 0)) (blkOk_by (N := n_lastof) (sc := defScope s_lastof) (by decide +kernel))
      (fun _ _ _ _ _ => pg_name (i := 2) nd rfl (.inl rfl) (.inr rfl)) (fun _ _ _ _ _ => pts_one (pt_cmpR op_notIn_seq (pv 2) (pv 1) rfl)) (fun _ _ _ _ _ => pv 2)) pa_nil))), ?_⟩
    refine ⟨.ref a, rfl, a, rfl, ⟨_, SqT.of ha⟩, fun D nD => ?_⟩
    refine lc_acc walk_tup (fun i => nV ((wl.take i).filter fun p => !mem p ol)) rfl (fun i hi => ?_) nD (fun H2 k2 => SqT.of (k2.tup ha)) (fun i x H2 H3 hi k2 y C C' hC hC' => ?_) fun H2 k2 e => ?_
    · rw [nV_len] at hi ⊢
      exact small1000 (Nat.le_trans (List.length_filter_le _ _) (by rw [List.length_take]; omega))
    · obtain ⟨rfl, gx⟩ := y
      rw [nV_len] at hi
      have g : wl[i]? = some wl[i] := List.getElem?_eq_getElem hi
      have gx2 := (nV_get g).symm.trans gx
      cases gx2
      have ft := filter_take (fun p => !mem p ol) g
      refine ⟨rfl, .int (wl[i] : Int), rfl, .ref b, rfl, b, nV ol, rfl, .inr (SqT.of (k2.tup hb)), rfl, nV_flat ol, _, rfl, ?_⟩
      show (if (if true = true then !inV (.int (wl[i] : Int)) (nV ol) else inV (.int (wl[i] : Int)) (nV ol)) = true then _ else _)
      rw [if_pos rfl, inV_nV]
      cases hm : mem wl[i] ol with
      | true =>
        refine iteF ?_
        refine hC' H3 (Kp.refl _) ?_
        rw [ft, hm]
        simp
      | false =>
        refine iteT ?_
        refine ⟨.int (wl[i] : Int), rfl, hC _ H3 (Kp.refl _) ?_⟩
        rw [ft, hm]
        simp [nV]
    · refine ⟨D, _, rfl, .inl ⟨SqL.of e, fun l nl => ?_⟩⟩
      refine q _ l (k2.trans (Kp.new nl)) ?_
      rw [upd_same, nV_len, List.take_length]
      rfl
def spLastD (P P2 : Addr) : Sp := fun vs H Q _ => ∃ (n : Nat) (a b : Addr) (wl ol : List Nat), vs = [.int (n : Int), .ref a, .ref b] ∧ 2 ≤ n ∧ n ≤ 9 ∧ H a = some (.tup (nV wl)) ∧ IsSet n wl ∧ wl.length < n ∧ H b = some (.tup (nV ol)) ∧ IsSet n ol ∧ ol.length ≤ 1000 ∧ (ol.all fun x => mem x wl) = true ∧ TabG H P ∧ TabG H P2 ∧
  ∀ H' p, Kp H H' → H' p = some (.tup (nV (lastD wl ol))) → Q (.ref p) H'
theorem ok_lastd (D : Dx K mg "last_difference" s_lastdifference p_lastdifference) (Do : Dx K mg "last_of" s_lastof p_lastof) (Dl : Dx K mg "lies_in" s_liesin p_liesin) (T2 : Tx mg base Dl.cdv)
    (Dt : Dx K mg "need_terms" s_needterms p_needterms) (Dw : Dx K mg "need_whole" s_needwhole p_needwhole) (De : Dx K mg "need_set" s_needset p_needset) (Dn : Dx K mg "need_size" s_needsize p_needsize) (Ds : Dx K mg "is_set" s_isset p_isset) (T : Tx mg base Ds.cdv) (Di : Dx K mg "is_in" s_isin p_isin) (B : Bz mg) :
    FnOk P w K mg base CX0 5 D.f D.fd p_lastdifference (spLastD T.P T2.P) := by
  refine D.F.ok sc_lastdifference (fun vs H Q E h => ?_) (fun A outer s H vs Q E hr h => ?_)
  · obtain ⟨n, a, b, wl, ol, rfl, _⟩ := h
    rfl
  · obtain ⟨n, a, b, wl, ol, rfl, h2, h9, ha, hw, hwl, hb, ho, hol, hin, hT, hT2, q⟩ := h
    refine ⟨_, pss_cons (ps_expr (pe_call (ok_needterms Dt Dw De Dn Ds T Di B) hr rfl Dt.g Dt.F.kp Dt.b .nil pass0 (pa_cons (pv 0) (pa_cons (pv 1) (pa_cons (pv 2) pa_nil)))))
      (pss_one (ps_ret (pe_ifExp (pt_val (pe_call (ok_liesin Dl T2 B) (hr.mono (by decide)) rfl Dl.g Dl.F.kp Dl.b .nil pass0 (pa_cons (pv 1) (pa_cons (pv 2) pa_nil)))) (pe_call (ok_lastof Do B) (hr.mono (by decide)) rfl Do.g Do.F.kp Do.b .nil pass0 (pa_cons (pv 1) (pa_cons (pv 2) pa_nil))) pe_non))), ?_⟩
    refine ⟨.int (n : Int), rfl, .ref a, rfl, .ref b, rfl, n, a, b, wl, ol, rfl, h2, h9, ha, hw, hwl, hb, ho, hol, hT, fun H1 k1 => ?_⟩
    refine ⟨.ref a, rfl, .ref b, rfl, a, b, wl, ol, rfl, k1.tup ha, k1.tup hb, k1.tabG hT2, fun H2 k2 => ⟨_, rfl, ?_⟩⟩
    rw [hin]
    have k12 := k1.trans k2
    refine iteT ⟨.ref a, rfl, .ref b, rfl, a, b, wl, ol, rfl, k12.tup ha, k12.tup hb, by omega, fun H3 p k3 e => ?_⟩
    exact q H3 p (k12.trans k3) e
end
end K91
namespace K91
open PySem PySem.Spec PyProof.Rows L2
open GxR (TabB TabG Tabbed inv_tab sh_eta GenS keeps_refl keeps_tok)
theorem gapsGo_app (one : List Nat) (p : Nat) : ∀ (l : List Nat) (k : Nat), gapsGo one k (l ++ [p]) = gapsGo one k l ++ (if mem p one then [] else [k + l.length])
  | [], k => by
    show gapsGo one k [p] = [] ++ _
    unfold gapsGo
    cases mem p one <;> simp [gapsGo]
  | x :: r, k => by
    have ih := gapsGo_app one p r (k + 1)
    show gapsGo one k (x :: (r ++ [p])) = gapsGo one k (x :: r) ++ _
    unfold gapsGo
    rw [ih, List.length_cons]
    have e : k + 1 + r.length = k + (r.length + 1) := by omega
    rw [e]
    cases mem x one <;> rfl
theorem gapsGo_le (one : List Nat) : ∀ (l : List Nat) (k : Nat), (gapsGo one k l).length ≤ l.length
  | [], k => Nat.le_refl _
  | x :: r, k => by
    have ih := gapsGo_le one r (k + 1)
    unfold gapsGo
    cases mem x one with
    | true => exact Nat.le_succ_of_le ih
    | false => exact Nat.succ_le_succ ih
theorem blocksGo_app (n : Nat) (one : List Nat) (p : Nat) : ∀ l : List Nat, blocksGo n one (l ++ [p]) = blocksGo n one l ++ (if mem ((p + n - 1) % n) one then [] else [(p, lenGo n one p n 1)])
  | [] => by
    show blocksGo n one [p] = [] ++ _
    unfold blocksGo
    cases mem ((p + n - 1) % n) one <;> simp [blocksGo]
  | x :: r => by
    have ih := blocksGo_app n one p r
    show blocksGo n one (x :: (r ++ [p])) = blocksGo n one (x :: r) ++ _
    unfold blocksGo
    rw [ih]
    cases mem ((x + n - 1) % n) one <;> rfl
theorem blocksGo_le (n : Nat) (one : List Nat) : ∀ l : List Nat, (blocksGo n one l).length ≤ l.length
  | [] => Nat.le_refl _
  | x :: r => by
    have ih := blocksGo_le n one r
    unfold blocksGo
    cases mem ((x + n - 1) % n) one with
    | true => exact Nat.le_succ_of_le ih
    | false => exact Nat.succ_le_succ ih
theorem lenGo_t {n f p l : Nat} {one : List Nat} (h : mem ((p + l) % n) one = true) : lenGo n one p (f + 1) l = lenGo n one p f (l + 1) := by
  show (match mem ((p + l) % n) one with | true => lenGo n one p f (l + 1) | false => l) = _
  rw [h]
theorem lenGo_f {n f p l : Nat} {one : List Nat} (h : mem ((p + l) % n) one = false) : lenGo n one p f l = l := by
  cases f with
  | zero => rfl
  | succ f =>
    show (match mem ((p + l) % n) one with | true => lenGo n one p f (l + 1) | false => l) = _
    rw [h]
theorem lenGo_free {n p : Nat} (one : List Nat) : ∀ f l, (∃ k, k ≤ f ∧ mem ((p + (l + k)) % n) one = false) → mem ((p + lenGo n one p f l) % n) one = false
  | 0, l, ⟨k, hk, e⟩ => by
    have : k = 0 := Nat.le_zero.mp hk
    subst this
    exact e
  | f + 1, l, ⟨k, hk, e⟩ => by
    cases hm : mem ((p + l) % n) one with
    | false =>
      rw [lenGo_f hm]
      exact hm
    | true =>
      rw [lenGo_t hm]
      refine lenGo_free one f (l + 1) ?_
      cases k with
      | zero =>
        rw [Nat.add_zero, hm] at e
        cases e
      | succ k => exact ⟨k, Nat.le_of_succ_le_succ hk, by rw [show l + 1 + k = l + (k + 1) by omega]; exact e⟩
theorem lenGo_ok {n p : Nat} {one : List Nat} (h1 : one.length < n) (hp : p < n) (hm : mem p one = true) : mem ((p + lenGo n one p n 1) % n) one = false := by
  obtain ⟨j, hj, hj2⟩ := L2.st_missing one n h1
  have hjp : j ≠ p := fun z => hj2 (by rw [z]; exact mem_iff.mp hm)
  have hd : ∃ d, 1 ≤ d ∧ d ≤ n ∧ (p + d) % n = j := by
    by_cases c : p < j
    · exact ⟨j - p, by omega, by omega, by rw [show p + (j - p) = j by omega, Nat.mod_eq_of_lt hj]⟩
    · exact ⟨j + n - p, by omega, by omega, by rw [show p + (j + n - p) = j + n by omega, Nat.add_mod_right, Nat.mod_eq_of_lt hj]⟩
  obtain ⟨d, d1, d2, e⟩ := hd
  refine lenGo_free one n 1 ⟨d - 1, by omega, ?_⟩
  rw [show p + (1 + (d - 1)) = p + d by omega, e]
  exact mem_false.mpr hj2
theorem lenGo_le {n p : Nat} (one : List Nat) : ∀ f l, lenGo n one p f l ≤ l + f
  | 0, l => Nat.le_refl _
  | f + 1, l => by
    cases hm : mem ((p + l) % n) one with
    | false => rw [lenGo_f hm]; omega
    | true =>
      rw [lenGo_t hm]
      have := lenGo_le (n := n) (p := p) one f (l + 1)
      omega
theorem pred_mod {p n : Nat} (hn : 1 ≤ n) : ((p : Int) - 1) % (n : Int) = (((p + n - 1) % n : Nat) : Int) := by
  rw [Int.natCast_emod, Int.natCast_sub (by omega), Int.natCast_add, show (p : Int) + (n : Int) - ((1 : Nat) : Int) = (p : Int) - 1 + (n : Int) by omega, Int.add_emod_right]
def pair (b : Nat × Nat) : List Nat := [b.1, b.2]
section
variable {P : Program} {w : World} {K : PySem.W.Frag} {mg : Str → Option Value} {base : Heap}
/-! ### gap_ranks -/
def spGaps : Sp := fun vs H Q _ => ∃ (a b : Addr) (ps ol : List Nat), vs = [.ref a, .ref b] ∧ H a = some (.lst (nV ps)) ∧ H b = some (.tup (nV ol)) ∧ ps.length ≤ 1000 ∧ ∀ H' p, Kp H H' → H p = none → H' p = some (.lst (nV (gaps ps ol))) → Q (.ref p) H'
theorem ok_gaps (D : Dx K mg "gap_ranks" s_gapranks p_gapranks) (B : Bz mg) : FnOk P w K mg base CX0 1 D.f D.fd p_gapranks spGaps := by
  refine D.F.ok sc_gapranks (fun vs H Q E h => ?_) (fun A outer s H vs Q E hr h => ?_)
  · obtain ⟨a, b, wl, ol, rfl, _⟩ := h
    rfl
  · obtain ⟨a, b, ps, ol, rfl, ha, hb, hlen, q⟩ := h
    have nd := sc_gapranks.nd
    refine ⟨_, pss_one (ps_ret (pe_lc (own := [("rank", 2), ("place", 3)]) (g := gTup K 2 (gCons (gName 2) (gCons (gName 3) gNil))) (tt := tTest (tOp (rIn K true) (tVar 3) (tVar 1))) (te := tVar 2) rfl nd (pi_enum (by rfl) B.enum (pa_cons (pv 0) pa_nil)) (blkOk_by (N := n_gapranks) (sc := defScope s_gapranks) (by decide +kernel))
      (fun _ _ _ _ _ => pg_tup rfl (pgs_cons (pg_name (i := 2) nd rfl (.inl rfl) (.inr rfl)) (pgs_cons (pg_name (i := 3) nd rfl (.inl rfl) (.inr rfl)) pgs_nil))) (fun _ _ _ _ _ => pts_one (pt_cmpR op_notIn_seq (pv 3) (pv 1) rfl)) (fun _ _ _ _ _ => pv 2))), ?_⟩
    refine ⟨.ref a, rfl, a, nV ps, rfl, SqL.of ha, fun D nD => ?_⟩
    refine lc_acc walk_enum (fun i => nV (gapsGo ol 0 (ps.take i))) rfl (fun i hi => ?_) nD (fun H2 k2 => SqL.of (k2.lst ha)) (fun i x H2 H3 hi k2 y C C' hC hC' => ?_) fun H2 k2 e => ?_
    · rw [nV_len] at hi ⊢
      exact small1000 (Nat.le_trans (gapsGo_le _ _ _) (by rw [List.length_take]; omega))
    · obtain ⟨T, x1, x2, rfl, nT, rfl, g1, g2⟩ := y
      rw [nV_len] at hi
      have g : ps[i]? = some ps[i] := List.getElem?_eq_getElem hi
      have gx2 := (nV_get g).symm.trans g2
      cases gx2
      cases g1
      have k3 : Kp H2 (upd H2 T (.tup [V.int ((i : Nat) : Int), V.int (ps[i] : Int)])) := Kp.new nT
      have ft : gapsGo ol 0 (ps.take (i + 1)) = gapsGo ol 0 (ps.take i) ++ (if mem ps[i] ol then [] else [0 + (ps.take i).length]) := by
        rw [List.take_add_one, g]
        exact gapsGo_app ol ps[i] (ps.take i) 0
      have hlt : (ps.take i).length = i := by rw [List.length_take]; omega
      rw [hlt, Nat.zero_add] at ft
      refine ⟨T, _, rfl, SqT.of upd_same, rfl, _, _, rfl, _, _, rfl, rfl, rfl, ?_⟩
      refine ⟨.int (ps[i] : Int), rfl, .ref b, rfl, b, nV ol, rfl, .inr (SqT.of (k3.tup (k2.tup hb))), rfl, nV_flat ol, _, rfl, ?_⟩
      show (if (if true = true then !inV (.int (ps[i] : Int)) (nV ol) else inV (.int (ps[i] : Int)) (nV ol)) = true then _ else _)
      rw [if_pos rfl, inV_nV]
      cases hm : mem ps[i] ol with
      | true =>
        refine iteF ?_
        refine hC' _ k3 ?_
        rw [ft, hm]
        simp
      | false =>
        refine iteT ?_
        refine ⟨.int ((i : Nat) : Int), rfl, hC _ _ k3 ?_⟩
        rw [ft, hm]
        simp [nV]
    · refine q _ D k2 nD ?_
      rw [e, nV_len, List.take_length]
      rfl
/-! ### blocks_of -/
def spBlocks : Sp := fun vs H Q _ => ∃ (n : Nat) (a : Addr) (wl : List Nat), vs = [.int (n : Int), .ref a] ∧ H a = some (.tup (nV wl)) ∧ (∀ x ∈ wl, x < n) ∧ wl.length < n ∧ n ≤ 9 ∧ ∀ H' p xs, Kp H H' → H p = none → H' p = some (.lst xs) → Tups H' xs ((blocks n wl).map pair) → Q (.ref p) H'
theorem ok_blocks (D : Dx K mg "blocks_of" s_blocksof p_blocksof) (B : Bz mg) : FnOk P w K mg base CX0 1 D.f D.fd p_blocksof spBlocks := by
  refine D.F.ok sc_blocksof (fun vs H Q E h => ?_) (fun A outer s H vs Q E hr h => ?_)
  · obtain ⟨n, a, l, rfl, _⟩ := h
    rfl
  · obtain ⟨n, a, wl, rfl, ha, hl, hlen, hn9, q⟩ := h
    have nd := sc_blocksof.nd
    refine ⟨_, pss_cons (ps_if (pt_cmpR op_eq (pe_callB call_len_seq (by rfl) B.len PySem.boot_len (pa_cons (pv 1) pa_nil)) (pv 0) (nomark _)) pss_never pss_nil)
      (pss_cons (ps_set (i := 2) nd rfl (.inl rfl) (pe_lst pa_nil))
      (pss_cons (ps_for PassesOwn.never rfl (pi_tup (pv 1)) (pg_name (i := 3) nd rfl (.inl rfl))
        (pss_one (ps_if (pt_cmpR op_notIn_seq (pe_op op_mod (pe_op op_sub (pv 3) pe_int) (pv 0)) (pv 1) rfl)
          (pss_cons (ps_set (i := 4) nd rfl (.inl rfl) pe_int)
          (pss_cons (ps_while PassesOwn.never (pt_cmpR op_in_seq (pe_op op_mod (pe_op op_add (pv 3) (pv 4)) (pv 0)) (pv 1) rfl) (pss_one (ps_set (i := 4) nd rfl (.inl rfl) (pe_op op_add (pv 4) pe_int))))
          (pss_one (ps_expr (pe_bm PySem.F.plainAttrs_list PySem.F.slot_list_append PySem.F.type_list_append mt_append (pv 2) (pa_cons (pe_tup (pa_cons (pv 3) (pa_cons (pv 4) pa_nil))) pa_nil))))))
          pss_nil)))
      (pss_one (ps_ret (pv 2))))), ?_⟩
    have hT : ∀ H1, Kp H H1 → SqT K H1 a (nV wl) := fun H1 k => SqT.of (k.tup ha)
    refine ⟨.ref a, rfl, a, nV wl, rfl, .inr (hT H (Kp.refl H)), .int (n : Int), rfl, rfl, _, rfl, ?_⟩
    rw [decide_eq_false (fun z => by have := V.int.inj z; rw [nV_len] at this; omega)]
    refine iteF ⟨Nat.zero_le _, fun fo nfo => ?_⟩
    refine ⟨.ref a, rfl, a, rfl, ⟨_, hT _ ((Kp.refl H).mut nfo)⟩, for_it walk_tup (fun i σ H' => ∃ y3 y4 xs, σ = [some (.int (n : Int)), some (.ref a), some (.ref fo), y3, y4] ∧ Kp H H' ∧ H' fo = some (.lst xs) ∧ Tups H' xs ((blocksGo n wl (wl.take i)).map pair))
      ⟨none, none, [], rfl, (Kp.refl H).mut nfo, upd_same, .nil⟩ (fun i σ H' _ ⟨_, _, _, _, k, _⟩ => hT H' k) (fun i x σ H1 H2 hi hp y => ?_) fun σ H' hp => ?_⟩
    · obtain ⟨y3, y4, xs, rfl, k1, e1, r1⟩ := hp
      obtain ⟨rfl, gx⟩ := y
      rw [nV_len] at hi
      have g : wl[i]? = some wl[i] := List.getElem?_eq_getElem hi
      have gx2 := (nV_get g).symm.trans gx
      cases gx2
      have hw : wl[i] < n := hl _ (List.getElem_mem hi)
      have hmw : mem wl[i] wl = true := mem_iff.mpr (List.getElem_mem hi)
      have ft : blocksGo n wl (wl.take (i + 1)) = blocksGo n wl (wl.take i) ++ (if mem ((wl[i] + n - 1) % n) wl then [] else [(wl[i], lenGo n wl wl[i] n 1)]) := by
        rw [List.take_add_one, g]
        exact blocksGo_app n wl wl[i] (wl.take i)
      have ok := lenGo_ok hlen hw hmw
      generalize wl[i] = p at *
      generalize hL : lenGo n wl p n 1 = L at ok ft
      refine ⟨.int (p : Int), rfl, (p : Int), 1, rfl, rfl, .int (n : Int), rfl, (p : Int) - 1, (n : Int), rfl, rfl, (by show (0 : Int) < (n : Int); omega), .ref a, rfl, a, nV wl, rfl, .inr (hT _ k1), rfl, nV_flat wl, _, rfl, ?_⟩
      show (if (if true = true then !inV (.int (((p : Int) - 1) % (n : Int))) (nV wl) else inV (.int (((p : Int) - 1) % (n : Int))) (nV wl)) = true then _ else _)
      rw [if_pos rfl, pred_mod (by omega), inV_nV]
      cases hm : mem ((p + n - 1) % n) wl with
      | true =>
        refine iteF ⟨some (.int (p : Int)), y4, xs, rfl, k1, e1, ?_⟩
        rw [ft, hm, if_pos rfl, List.append_nil]
        exact r1
      | false =>
        refine iteT ?_
        refine ⟨fun f σ' H9 => H9 = H2 ∧ ∃ l : Nat, σ' = [some (.int (n : Int)), some (.ref a), some (.ref fo), some (.int (p : Int)), some (.int (l : Int))] ∧ lenGo n wl p f l = L, ⟨n, rfl, 1, rfl, hL⟩, ?_⟩
        rintro f σ' H9 ⟨rfl, l, rfl, ef⟩
        refine ⟨.int (p : Int), rfl, .int (l : Int), rfl, (p : Int), (l : Int), rfl, rfl, .int (n : Int), rfl, (p : Int) + (l : Int), (n : Int), rfl, rfl, (by show (0 : Int) < (n : Int); omega), .ref a, rfl, a, nV wl, rfl, .inr (hT _ k1), rfl, nV_flat wl, _, rfl, ?_⟩
        show (if (if false = true then !inV (.int (((p : Int) + (l : Int)) % (n : Int))) (nV wl) else inV (.int (((p : Int) + (l : Int)) % (n : Int))) (nV wl)) = true then _ else _)
        rw [if_neg Bool.false_ne_true, show (p : Int) + (l : Int) = ((p + l : Nat) : Int) by omega, emod_nat, inV_nV]
        cases hm2 : mem ((p + l) % n) wl with
        | true =>
          cases f with
          | zero =>
            have e : l = L := ef
            rw [← e, hm2] at ok
            cases ok
          | succ f =>
            refine iteT ⟨fun σ' H8 => H8 = H9 ∧ ∃ l : Nat, σ' = [some (.int (n : Int)), some (.ref a), some (.ref fo), some (.int (p : Int)), some (.int (l : Int))] ∧ lenGo n wl p f l = L, fun σ' H' h => ⟨f, Nat.lt_succ_self f, h⟩, ?_⟩
            exact ⟨.int (l : Int), rfl, (l : Int), 1, rfl, rfl, rfl, l + 1, rfl, (lenGo_t hm2).symm.trans ef⟩
        | false =>
          have es : l = L := (lenGo_f hm2).symm.trans ef
          refine iteF ?_
          refine ⟨.ref fo, rfl, .inl ⟨rfl, _, SqL.of e1⟩, .int (p : Int), rfl, .int (l : Int), rfl, (by decide : 2 ≤ sizeLine), fun t nt => ?_⟩
          have kt : Kp H9 (upd H9 t (.tup [.int (p : Int), .int (l : Int)])) := Kp.new nt
          refine ⟨fo, xs, .ref t, rfl, rfl, kt.lst e1, ?_, ?_⟩
          · have := r1.length
            rw [List.length_map] at this
            have h2 := blocksGo_le n wl (wl.take i)
            rw [List.length_take] at h2
            exact small1000 (by omega)
          · refine ⟨some (.int (p : Int)), some (.int (l : Int)), xs ++ [.ref t], rfl, (k1.trans kt).mut nfo, upd_same, ?_⟩
            rw [ft, hm, if_neg Bool.false_ne_true, List.map_append]
            refine (tups_upd (kt.tups r1) (kt.lst e1)).snoc ⟨t, rfl, ?_⟩
            rw [upd_ne (ne_of_none e1 nt).symm, upd_same, ← es]
            rfl
    · obtain ⟨y3, y4, xs, rfl, k1, e1, r1⟩ := hp
      rw [nV_len, List.take_length] at r1
      exact ⟨.ref fo, rfl, q H' fo xs k1 nfo e1 r1⟩
end
end K91
namespace K91
open PySem PySem.Spec PyProof.Rows L2
open GxR (TabB TabG Tabbed inv_tab sh_eta GenS keeps_refl keeps_tok)
def retE (st : Stmt) : Expr := match (defBody st).getLast? with
  | some (.Return (some e) _) => e
  | _ => .Constant .none 0 ⟨0, 0, 0, 0⟩
def lcS : Expr → Scope
  | .ListComp _ _ sc _ => sc
  | _ => { kind := .function, names := [], isGenerator := false, isCoroutine := false }
theorem placesOf_len (n : Nat) (b : Nat × Nat) : (placesOf n b).length = b.2 := by
  unfold placesOf
  rw [List.length_map, List.length_range]
theorem placesOf_get {n i : Nat} {b : Nat × Nat} (h : i < b.2) : (placesOf n b)[i]? = some ((b.1 + i) % n) := by
  unfold placesOf
  rw [List.getElem?_map, List.getElem?_range h]
  rfl
theorem blocksGo_len2 (n : Nat) (one : List Nat) : ∀ l : List Nat, ∀ b ∈ blocksGo n one l, 1 ≤ b.2 ∧ b.2 ≤ n + 1
  | [], b, h => by cases h
  | x :: r, b, h => by
    have ih := blocksGo_len2 n one r
    unfold blocksGo at h
    cases hm : mem ((x + n - 1) % n) one with
    | true =>
      rw [hm] at h
      exact ih b h
    | false =>
      rw [hm] at h
      rcases List.mem_cons.mp h with e | h
      · rw [e]
        have h2 := lenGo_le (n := n) (p := x) one n 1
        refine ⟨?_, by show lenGo n one x n 1 ≤ n + 1; omega⟩
        have : ∀ f l, l ≤ lenGo n one x f l := by
          intro f
          induction f with
          | zero => exact fun l => Nat.le_refl _
          | succ f ih =>
            intro l
            cases hm : mem ((x + l) % n) one with
            | false => rw [lenGo_f hm]; exact Nat.le_refl _
            | true => rw [lenGo_t hm]; exact Nat.le_trans (Nat.le_succ l) (ih (l + 1))
        exact this n 1
      · exact ih b h
/-- a list of these, not the one at D -/
def LstD (D : Addr) (H : Hp) (v : V) (l : List Nat) : Prop := ∃ p, v = .ref p ∧ p ≠ D ∧ H p = some (.lst (nV l))
theorem lstD_upd {D : Addr} {H : Hp} {o : HO} {xs : List V} {ls : List (List Nat)} (t : Al2 (LstD D H) xs ls) : Al2 (LstD D (upd H D o)) xs ls :=
  t.imp fun _ _ ⟨p, e, ne, h⟩ => ⟨p, e, ne, by rw [upd_ne ne]; exact h⟩
theorem lstD_kp {D : Addr} {H H' : Hp} {xs : List V} {ls : List (List Nat)} (k : Kp H H') (t : Al2 (LstD D H) xs ls) : Al2 (LstD D H') xs ls :=
  t.imp fun _ _ ⟨p, e, ne, h⟩ => ⟨p, e, ne, k.lst h⟩
section
variable {P : Program} {w : World} {K : PySem.W.Frag} {mg : Str → Option Value} {base : Heap}
/-! ### block_places -/
def spPlaces : Sp := fun vs H Q _ => ∃ (n : Nat) (a : Addr) (wl : List Nat), vs = [.int (n : Int), .ref a] ∧ H a = some (.tup (nV wl)) ∧ (∀ x ∈ wl, x < n) ∧ wl.length < n ∧ n ≤ 9 ∧ ∀ H' p xs, Kp H H' → H p = none → H' p = some (.lst xs) → Lsts H' xs (bplaces n wl) → Q (.ref p) H'
theorem ok_places (D : Dx K mg "block_places" s_blockplaces p_blockplaces) (Db : Dx K mg "blocks_of" s_blocksof p_blocksof) (B : Bz mg) : FnOk P w K mg base CX0 2 D.f D.fd p_blockplaces spPlaces := by
  refine D.F.ok sc_blockplaces (fun vs H Q E h => ?_) (fun A outer s H vs Q E hr h => ?_)
  · obtain ⟨n, a, l, rfl, _⟩ := h
    rfl
  · obtain ⟨n, a, wl, rfl, ha, hl, hlen, hn9, q⟩ := h
    have nd := sc_blockplaces.nd
    refine ⟨_, pss_one (ps_ret (pe_lc (own := [("first", 2), ("length", 3)]) (g := gTup K 2 (gCons (gName 2) (gCons (gName 3) gNil)))
      (te := tLc (iRng1 (tCons (tVar 3) tNil)) (gName 4) tYes (tOp (rI (fun _ j => 0 < j) fun i j => .int (i % j)) (tOp (rI0 fun i j => .int (i + j)) (tVar 2) (tVar 4)) (tVar 0)) [4]) rfl nd
      (pi_list (pe_call (ok_blocks Db B) hr rfl Db.g Db.F.kp Db.b .nil pass0 (pa_cons (pv 0) (pa_cons (pv 1) pa_nil)))) (blkOk_by (N := n_blockplaces) (sc := defScope s_blockplaces) (by decide +kernel))
      (fun _ _ _ _ _ => pg_tup rfl (pgs_cons (pg_name (i := 2) nd rfl (.inr rfl) (.inl rfl)) (pgs_cons (pg_name (i := 3) nd rfl (.inl rfl) (.inr rfl)) pgs_nil))) (fun _ _ _ _ _ => pts_nil)
      (fun _ _ _ _ _ => pe_lc (own := [("k", 4)]) (g := gName 4) rfl nd (pi_range1 (by rfl) B.range (pa_cons (pv 3) pa_nil)) (blkOk_by (N := n_blockplaces) (sc := relS (lcS (retE s_blockplaces)) (defScope s_blockplaces)) (by decide +kernel))
        (fun _ _ _ _ _ => pg_name (i := 4) nd rfl (.inl rfl) (.inr rfl)) (fun _ _ _ _ _ => pts_nil) (fun _ _ _ _ _ => pe_op op_mod (pe_op op_add (pv 2) (pv 4)) (pv 0))))), ?_⟩
    refine ⟨.int (n : Int), rfl, .ref a, rfl, n, a, wl, rfl, ha, hl, hlen, hn9, fun H1 p0 bs k1 np0 e1 r1 => ?_⟩
    refine ⟨p0, rfl, ⟨_, SqL.of e1⟩, fun D nD => ?_⟩
    refine lc_R (walk_list (xs := bs)) (fun i xs H2 => Al2 (LstD D H2) xs ((bplaces n wl).take i)) nD (fun H2 k2 => SqL.of (k2.lst e1)) (fun _ _ => .nil)
      (fun i xs H2 zs zs' r e => lstD_upd r) (fun i x H2 H3 xs hi k2 eD r2 y C C' hC _ => ?_) fun H2 xs k2 eD r2 => ?_
    · obtain ⟨rfl, gx⟩ := y
      obtain ⟨l2, gl, t, rfl, et⟩ := r1.get' gx
      rw [List.getElem?_map] at gl
      cases hb : (blocks n wl)[i]? with
      | none => rw [hb] at gl; cases gl
      | some b =>
        rw [hb] at gl
        cases gl
        obtain ⟨b1, b2⟩ := b
        have hb2 := blocksGo_len2 n wl wl _ (List.mem_of_getElem? hb)
        refine ⟨t, _, rfl, SqT.of (k2.tup et), rfl, _, _, rfl, _, _, rfl, rfl, rfl, ?_⟩
        refine ⟨.int (b2 : Int), rfl, (b2 : Int), rfl, by omega, by omega, fun E nE => ?_⟩
        have eb : (bplaces n wl)[i]? = some (placesOf n (b1, b2)) := by
          unfold bplaces
          rw [List.getElem?_map, hb]
          rfl
        refine lc_acc (walk_range (lo := 0) (n := (b2 : Int).toNat)) (fun j => nV ((placesOf n (b1, b2)).take j)) rfl (fun j hj => by rw [nV_len, List.length_take]; exact small1000 (by have := placesOf_len n (b1, b2); omega)) nE (fun _ _ => trivial) (fun j x H4 H5 hj k4 y C2 C2' hC2 _ => ?_) fun H4 k4 e4 => ?_
        · obtain ⟨rfl, rfl⟩ := y
          have hj2 : j < b2 := by omega
          refine ⟨rfl, .int (b1 : Int), rfl, .int ((0 : Int) + ((j : Nat) : Int)), rfl, (b1 : Int), (0 : Int) + ((j : Nat) : Int), rfl, rfl, .int (n : Int), rfl, _, (n : Int), rfl, rfl, (by show (0 : Int) < (n : Int); omega), ?_⟩
          have e9 : ((b1 : Int) + ((0 : Int) + ((j : Nat) : Int))) % (n : Int) = (((b1 + j) % n : Nat) : Int) := by rw [show (b1 : Int) + ((0 : Int) + ((j : Nat) : Int)) = ((b1 + j : Nat) : Int) by omega, emod_nat]
          show C2 (.int (((b1 : Int) + ((0 : Int) + ((j : Nat) : Int))) % (n : Int))) H5
          rw [e9]
          exact hC2 _ _ (Kp.refl _) (nV_take (placesOf_get (b := (b1, b2)) hj2))
        · refine hC (.ref E) H4 k4 ?_ ?_
          · have h1 := r2.length
            rw [List.length_take] at h1
            have h2 : (bplaces n wl).length ≤ wl.length := by
              unfold bplaces
              rw [List.length_map]
              exact blocksGo_le n wl wl
            exact small1000 (by omega)
          · rw [List.take_add_one, eb]
            refine (lstD_kp k4 r2).snoc ⟨E, rfl, fun z => ?_, ?_⟩
            · rw [z] at nE
              rw [eD] at nE
              cases nE
            · rw [e4, List.take_of_length_le (by rw [placesOf_len]; show b2 ≤ (b2 : Int).toNat; omega)]
    · have hb : bs.length = (bplaces n wl).length := by
        have := r1.length
        rw [List.length_map] at this
        unfold bplaces
        rw [List.length_map]
        exact this
      rw [hb, List.take_length] at r2
      exact q H2 D xs (k1.trans k2) (k1.free nD) eD (r2.imp fun _ _ ⟨p, e1, ne, e2⟩ => ⟨p, e1, e2⟩)
end
end K91
namespace K91
open PySem PySem.Spec PyProof.Rows L2
open GxR (TabB TabG Tabbed inv_tab sh_eta GenS keeps_refl keeps_tok)
theorem cut_take (l : List Nat) {k : Nat} : cutV (nV l) none (some (k : Int)) = nV (l.take k) := by
  unfold cutV
  rw [HT.sIx_none, HT.sIx_nat, nV_len]
  show ((nV l).drop 0).take (min k l.length - 0) = _
  rw [List.drop_zero, Nat.sub_zero]
  unfold nV
  rw [← List.map_take]
  congr 1
  by_cases h : k ≤ l.length
  · rw [Nat.min_eq_left h]
  · rw [Nat.min_eq_right (by omega), List.take_length, List.take_of_length_le (by omega)]
theorem sortedI_nat {l : List Nat} {ns : List Int} (p : ns.Perm (l.map fun n : Nat => (n : Int))) (s : ns.Pairwise (· ≤ ·)) : ns = (isort l).map fun n : Nat => (n : Int) := by
  refine List.Perm.eq_of_pairwise (le := (· ≤ ·)) (fun a b _ _ h1 h2 => Int.le_antisymm h1 h2) s ?_ (p.trans ((isort_perm l).map _).symm)
  rw [List.pairwise_map]
  exact (isort_sorted l).imp fun h => by omega
section
variable {P : Program} {w : World} {K : PySem.W.Frag} {mg : Str → Option Value} {base : Heap}
/-! ### first_of -/
theorem bplaces_len (n : Nat) (wl : List Nat) : (bplaces n wl).length ≤ wl.length := by
  unfold bplaces
  rw [List.length_map]
  exact blocksGo_le n wl wl
theorem bplaces_item {n : Nat} {wl ps : List Nat} (h : ps ∈ bplaces n wl) : 1 ≤ ps.length ∧ ps.length ≤ n + 1 := by
  obtain ⟨b, hb, rfl⟩ := List.mem_map.mp h
  rw [placesOf_len]
  exact blocksGo_len2 n wl wl b hb
def firstF (ol : List Nat) (ps : List Nat) : List Nat := ps.take (gaps ps ol).length
theorem flat_len (ol : List Nat) {m : Nat} : ∀ ls : List (List Nat), (∀ l ∈ ls, l.length ≤ m) → (ls.flatMap (firstF ol)).length ≤ ls.length * m
  | [], _ => by simp
  | l :: r, h => by
    rw [List.flatMap_cons, List.length_append, List.length_cons, Nat.succ_mul]
    have h1 : (firstF ol l).length ≤ l.length := by
      unfold firstF
      rw [List.length_take]
      exact Nat.min_le_right _ _
    have h2 := h l List.mem_cons_self
    have h3 := flat_len ol r fun x hx => h x (List.mem_cons_of_mem _ hx)
    omega
def spFirstOf : Sp := fun vs H Q _ => ∃ (n : Nat) (a b : Addr) (wl ol : List Nat), vs = [.int (n : Int), .ref a, .ref b] ∧ H a = some (.tup (nV wl)) ∧ (∀ x ∈ wl, x < n) ∧ wl.length < n ∧ n ≤ 9 ∧ H b = some (.tup (nV ol)) ∧ ∀ H' p, Kp H H' → H' p = some (.tup (nV (firstD n wl ol))) → Q (.ref p) H'
theorem ok_firstof (D : Dx K mg "first_of" s_firstof p_firstof) (Dp : Dx K mg "block_places" s_blockplaces p_blockplaces) (Db : Dx K mg "blocks_of" s_blocksof p_blocksof) (Dg : Dx K mg "gap_ranks" s_gapranks p_gapranks) (B : Bz mg) : FnOk P w K mg base CX0 3 D.f D.fd p_firstof spFirstOf := by
  refine D.F.ok sc_firstof (fun vs H Q E h => ?_) (fun A outer s H vs Q E hr h => ?_)
  · obtain ⟨n, a, b, wl, ol, rfl, _⟩ := h
    rfl
  · obtain ⟨n, a, b, wl, ol, rfl, ha, hl, hlen, hn9, hb, q⟩ := h
    have nd := sc_firstof.nd
    refine ⟨_, pss_cons (ps_set (i := 3) nd rfl (.inl rfl) (pe_lst pa_nil))
      (pss_cons (ps_for PassesOwn.never rfl (pi_list (pe_call (ok_places Dp Db B) hr rfl Dp.g Dp.F.kp Dp.b .nil pass0 (pa_cons (pv 0) (pa_cons (pv 1) pa_nil)))) (pg_name (i := 4) nd rfl (.inl rfl))
        (pss_one (ps_set (i := 3) nd rfl (.inl rfl) (pe_op op_cat (pv 3) (pe_slice sl_list (pv 4) po_none (po_some (pe_callB call_len_seq (by rfl) B.len PySem.boot_len (pa_cons (pe_call (ok_gaps Dg B) (hr.mono (by decide)) rfl Dg.g Dg.F.kp Dg.b .nil pass0 (pa_cons (pv 4) (pa_cons (pv 2) pa_nil))) pa_nil))))))))
      (pss_one (ps_ret (pe_callTy call_tuple_of (by rfl) B.tuple (by decide +kernel) (pa_cons (pe_callB cr_sortedI (by rfl) B.sorted (by decide +kernel) (pa_cons (pv 3) pa_nil)) pa_nil))))), ?_⟩
    refine ⟨Nat.zero_le _, fun f0 nf0 => ?_⟩
    have k0 : Kp H (upd H f0 (.lst [])) := (Kp.refl H).mut nf0
    refine ⟨.int (n : Int), rfl, .ref a, rfl, n, a, wl, rfl, k0.tup ha, hl, hlen, hn9, fun H1 p0 bs k1 np0 e1 r1 => ?_⟩
    refine ⟨p0, rfl, ⟨_, SqL.of e1⟩, for_it (walk_list (xs := bs)) (fun i σ H' => ∃ f y4, σ = [some (.int (n : Int)), some (.ref a), some (.ref b), some (.ref f), y4] ∧ Kp H1 H' ∧ H' f = some (.lst (nV (((bplaces n wl).take i).flatMap (firstF ol)))))
      ⟨f0, none, rfl, Kp.refl _, k1.lst upd_same⟩ (fun i σ H' _ ⟨_, _, _, k, _⟩ => SqL.of (k.lst e1)) (fun i x σ H2 H3 hi hp y => ?_) fun σ H' hp => ?_⟩
    · obtain ⟨f, y4, rfl, k2, ef⟩ := hp
      obtain ⟨rfl, gx⟩ := y
      obtain ⟨ps, gp, t, rfl, et⟩ := r1.get' gx
      have hps := bplaces_item (List.mem_of_getElem? gp)
      have et2 := k2.lst et
      refine ⟨.ref f, rfl, .ref t, rfl, .ref t, rfl, .ref b, rfl, t, b, ps, ol, rfl, et2, k2.tup (k1.tup (k0.tup hb)), by omega, fun H4 g k4 ng eg => ?_⟩
      refine ⟨g, _, rfl, .inl (SqL.of eg), _, rfl, t, _, rfl, SqL.of (k4.lst et2), fun c nc => ?_⟩
      have k5 : Kp H4 (upd H4 c (.lst (cutV (nV ps) none (some ((nV (gaps ps ol)).length : Int))))) := Kp.new nc
      refine ⟨f, c, _, _, rfl, rfl, k5.lst (k4.lst ef), upd_same, ?_, fun f2 nf2 => ⟨f2, some (.ref t), rfl, ((k2.trans k4).trans k5).trans (Kp.new nf2), ?_⟩⟩
      · rw [cut_take, nV_len, nV_len, List.length_take]
        have h1 := flat_len ol (m := 10) ((bplaces n wl).take i) fun l hl => by
          have := bplaces_item (n := n) (wl := wl) (List.mem_of_mem_take hl)
          omega
        have h2 := bplaces_len n wl
        rw [List.length_take] at h1
        exact Nat.le_of_lt (small1000 (by omega))
      · rw [upd_same, cut_take, List.take_add_one, gp, List.flatMap_append, nV_len]
        simp [nV, firstF]
    · obtain ⟨f, y4, rfl, k2, ef⟩ := hp
      have hb2 : bs.length = (bplaces n wl).length := r1.length
      rw [hb2, List.take_length, nV_eq] at ef
      refine ⟨.ref f, rfl, f, _, rfl, SqL.of ef, fun ns' p pm srt np => ?_⟩
      rw [sortedI_nat pm srt, ← nV_eq]
      have k3 : Kp H' (upd H' p (.lst (nV (isort ((bplaces n wl).flatMap (firstF ol)))))) := Kp.new np
      refine ⟨p, _, rfl, .inl ⟨SqL.of upd_same, fun l nl => ?_⟩⟩
      exact q _ l ((((k0.trans k1).trans k2).trans k3).trans (Kp.new nl)) upd_same
/-! ### rank_rows -/
theorem rowsGo_app (g : Nat) : ∀ (l : List Nat) (found : List (List Nat)), rowsGo (l ++ [g]) found = (rowsGo l found).flatMap (ext1 g)
  | [], _ => rfl
  | x :: r, found => rowsGo_app g r (found.flatMap (ext1 x))
theorem ext1_len (g : Nat) (row : List Nat) : (ext1 g row).length ≤ g + 1 := by
  unfold ext1
  rw [List.length_map, List.length_range]
  omega
theorem flatExt_len {g : Nat} (hg : g ≤ 6) : ∀ ls : List (List Nat), (ls.flatMap (ext1 g)).length ≤ ls.length * 7
  | [] => by simp
  | l :: r => by
    rw [List.flatMap_cons, List.length_append, List.length_cons, Nat.succ_mul]
    have h1 := ext1_len g l
    have h3 := flatExt_len hg r
    omega
theorem rowsGo_len : ∀ (l : List Nat), (∀ g ∈ l, g ≤ 6) → ∀ found : List (List Nat), (rowsGo l found).length ≤ found.length * 7 ^ l.length
  | [], _, found => by
    show found.length ≤ found.length * 1
    omega
  | x :: r, h, found => by
    have h1 := rowsGo_len r (fun g hg => h g (List.mem_cons_of_mem _ hg)) (found.flatMap (ext1 x))
    have h2 := flatExt_len (h x List.mem_cons_self) found
    refine Nat.le_trans h1 ?_
    rw [List.length_cons, Nat.pow_succ, Nat.mul_comm (7 ^ r.length) 7, ← Nat.mul_assoc]
    exact Nat.mul_le_mul_right _ h2
theorem rows_small {l : List Nat} (h : ∀ g ∈ l, g ≤ 6) (h7 : l.length ≤ 7) (i : Nat) : (rowsGo (l.take i) [[]]).length ≤ 823543 := by
  have h1 := rowsGo_len (l.take i) (fun g hg => h g (List.mem_of_mem_take hg)) [[]]
  refine Nat.le_trans h1 ?_
  rw [List.length_singleton, Nat.one_mul]
  exact Nat.le_trans (Nat.pow_le_pow_right (by decide) (show (l.take i).length ≤ 7 by rw [List.length_take]; omega)) (by decide)
theorem ext1_get {g i : Nat} {row : List Nat} (h : i < g + 1 - nxt row) : (ext1 g row)[i]? = some (row ++ [nxt row + i]) := by
  unfold ext1
  rw [List.getElem?_map, List.getElem?_range h]
  rfl
theorem ext1_len2 (g : Nat) (row : List Nat) : (ext1 g row).length = g + 1 - nxt row := by
  unfold ext1
  rw [List.length_map, List.length_range]
end
end K91
namespace K91
open PySem PySem.Spec PyProof.Rows L2
open GxR (TabB TabG Tabbed inv_tab sh_eta GenS keeps_refl keeps_tok)
theorem nxt_snoc (l : List Nat) (x : Nat) : nxt (l ++ [x]) = x + 1 := by
  unfold nxt
  rw [List.getLast?_append]
  rfl
theorem nV_snoc (l : List Nat) (x : Nat) : nV (l ++ [x]) = nV l ++ [.int (x : Int)] := by
  unfold nV
  rw [List.map_append]
  rfl
/-- elements of rows are at most the last gap -/
theorem mem_rowsGo_len : ∀ (l : List Nat) (found : List (List Nat)) (m : Nat), (∀ r ∈ found, r.length = m) → ∀ r ∈ rowsGo l found, r.length = m + l.length
  | [], found, m, h, r, hr => h r hr
  | g :: l, found, m, h, r, hr => by
    have := mem_rowsGo_len l (found.flatMap (ext1 g)) (m + 1) (fun r hr => by
      obtain ⟨r0, h0, h1⟩ := List.mem_flatMap.mp hr
      unfold ext1 at h1
      obtain ⟨i, _, rfl⟩ := List.mem_map.mp h1
      rw [List.length_append, h r0 h0]
      rfl) r hr
    rw [this, List.length_cons]
    omega
theorem nxt_le_of (l : List Nat) : ∀ found : List (List Nat), (∀ r ∈ found, nxt r ≤ 7) → (∀ g ∈ l, g ≤ 6) → ∀ r ∈ rowsGo l found, nxt r ≤ 7 := by
  induction l with
  | nil => exact fun found h _ r hr => h r hr
  | cons g l ih =>
    intro found h hg r hr
    refine ih (found.flatMap (ext1 g)) (fun r hr => ?_) (fun g' h' => hg g' (List.mem_cons_of_mem _ h')) r hr
    obtain ⟨r0, h0, h1⟩ := List.mem_flatMap.mp hr
    unfold ext1 at h1
    obtain ⟨i, hi, rfl⟩ := List.mem_map.mp h1
    have hi2 := List.mem_range.mp hi
    have := hg g List.mem_cons_self
    rw [nxt_snoc]
    omega
section
variable {P : Program} {w : World} {K : PySem.W.Frag} {mg : Str → Option Value} {base : Heap}
def spRows : Sp := fun vs H Q _ => ∃ (a : Addr) (gs : List Nat), vs = [.ref a] ∧ H a = some (.lst (nV gs)) ∧ (∀ g ∈ gs, g ≤ 6) ∧ gs.length ≤ 7 ∧ ∀ H' p xs, Kp H H' → H p = none → H' p = some (.lst xs) → Tups H' xs (rrows gs) → Q (.ref p) H'
theorem ok_rows (D : Dx K mg "rank_rows" s_rankrows p_rankrows) (B : Bz mg) : FnOk P w K mg base CX0 1 D.f D.fd p_rankrows spRows := by
  refine D.F.ok sc_rankrows (fun vs H Q E h => ?_) (fun A outer s H vs Q E hr h => ?_)
  · obtain ⟨a, l, rfl, _⟩ := h
    rfl
  · obtain ⟨a, gs, rfl, ha, hg6, hg7, q⟩ := h
    have nd := sc_rankrows.nd
    refine ⟨_, pss_cons (ps_set (i := 1) nd rfl (.inl rfl) (pe_lst (pa_cons (pe_tup pa_nil) pa_nil)))
      (pss_cons (ps_for PassesOwn.never rfl (pi_list (pv 0)) (pg_name (i := 2) nd rfl (.inl rfl))
        (pss_cons (ps_set (i := 3) nd rfl (.inl rfl) (pe_lst pa_nil))
        (pss_cons (ps_for PassesOwn.never rfl (pi_list (pv 1)) (pg_name (i := 4) nd rfl (.inr rfl))
          (pss_one (ps_set (i := 3) nd rfl (.inl rfl) (pe_op op_cat (pv 3)
            (pe_lc (own := [("rank", 5)]) (g := gName 5) (te := tTup (StX.tStar K (tVar 4) (tCons (tVar 5) tNil))) rfl nd
              (pi_range2 (by rfl) B.range (pa_cons (pe_ifExp (pt_truth (pv 4) (by intro _; rfl)) (pe_op op_add (pe_ix ix_tup (pv 4) (pe_un un_neg pe_int) (fun _ _ => rfl)) pe_int) pe_int) (pa_cons (pe_op op_add (pv 2) pe_int) pa_nil)))
              (blkOk_by (N := n_rankrows) (sc := defScope s_rankrows) (by decide +kernel)) (fun _ _ _ _ _ => pg_name (i := 5) nd rfl (.inl rfl) (.inr rfl)) (fun _ _ _ _ _ => pts_nil)
              (fun _ _ _ _ _ => pe_tup (StX.pa_star (pv 4) (pa_cons (pv 5) pa_nil))))))))
        (pss_one (ps_set (i := 1) nd rfl (.inl rfl) (pv 3))))))
      (pss_one (ps_ret (pv 1)))), ?_⟩
    refine ⟨Nat.zero_le _, fun t0 nt0 => ⟨(by decide : 1 ≤ sizeLine), fun f0 nf0 => ?_⟩⟩
    have k0 : Kp H (upd (upd H t0 (.tup [])) f0 (.lst [.ref t0])) := (Kp.new nt0).trans (Kp.new nf0)
    have nef : t0 ≠ f0 := fun z => by
      rw [z, upd_same] at nf0
      cases nf0
    have nf0' : H f0 = none := (Kp.new nt0).free nf0
    refine ⟨.ref a, rfl, a, rfl, ⟨_, SqL.of (k0.lst ha)⟩, for_it (walk_list (xs := nV gs)) (fun i σ H' => ∃ f xs y2 y3 y4 y5, σ = [some (.ref a), some (.ref f), y2, y3, y4, y5] ∧ Kp H H' ∧ H f = none ∧ H' f = some (.lst xs) ∧ Tups H' xs (rowsGo (gs.take i) [[]]))
      ⟨f0, [.ref t0], none, none, none, none, rfl, k0, nf0', upd_same, .cons ⟨t0, rfl, by rw [upd_ne nef, upd_same]; rfl⟩ .nil⟩ (fun i σ H' _ ⟨_, _, _, _, _, _, _, k, _⟩ => SqL.of (k.lst ha)) (fun i x σ H1 H2 hi hp y => ?_) fun σ H' hp => ?_⟩
    · obtain ⟨f, xs, y2, y3, y4, y5, rfl, k1, nf, e1, r1⟩ := hp
      obtain ⟨rfl, gx⟩ := y
      rw [nV_len] at hi
      have g : gs[i]? = some gs[i] := List.getElem?_eq_getElem hi
      have gx2 := (nV_get g).symm.trans gx
      cases gx2
      have hgi := hg6 _ (List.getElem_mem hi)
      have small := rows_small hg6 hg7 (i + 1)
      have hnx := nxt_le_of (gs.take i) [[]] (fun r hr => by rw [List.mem_singleton.mp hr]; decide) (fun g hg => hg6 g (List.mem_of_mem_take hg))
      have hrow : ∀ r ∈ rowsGo (gs.take i) [[]], r.length ≤ 7 := fun r hr => by
        rw [mem_rowsGo_len (gs.take i) [[]] 0 (fun r hr => by rw [List.mem_singleton.mp hr]; rfl) r hr, List.length_take]
        omega
      rw [List.take_add_one, g] at small
      have small : (rowsGo (gs.take i ++ [gs[i]]) [[]]).length ≤ 823543 := small
      rw [rowsGo_app] at small
      have ft : rowsGo (gs.take (i + 1)) [[]] = (rowsGo (gs.take i) [[]]).flatMap (ext1 gs[i]) := by
        rw [List.take_add_one, g]
        exact rowsGo_app gs[i] (gs.take i) [[]]
      generalize gs[i] = gp at *
      generalize rowsGo (gs.take i) [[]] = R at *
      -- more = []
      refine ⟨Nat.zero_le _, fun m0 nm0 => ?_⟩
      have k2 : Kp H2 (upd H2 m0 (.lst [])) := Kp.new nm0
      refine ⟨.ref f, rfl, f, rfl, ⟨_, SqL.of (k2.lst e1)⟩, for_it (walk_list (xs := xs)) (fun j σ H' => ∃ m ys y4 y5, σ = [some (.ref a), some (.ref f), some (.int (gp : Int)), some (.ref m), y4, y5] ∧ Kp H2 H' ∧ H2 m = none ∧ H' m = some (.lst ys) ∧ Tups H' ys ((R.take j).flatMap (ext1 gp)))
        ⟨m0, [], y4, y5, rfl, k2, nm0, upd_same, .nil⟩ (fun j σ H' _ ⟨_, _, _, _, _, k, _⟩ => SqL.of (k.lst e1)) (fun j x σ H3 H4 hj hp y => ?_) fun σ H' hp => ?_⟩
      · obtain ⟨m, ys, y4, y5, rfl, k3, nm, em, rm⟩ := hp
        obtain ⟨rfl, gx⟩ := y
        obtain ⟨row, gr, t, rfl, et⟩ := r1.get' gx
        have et4 := k3.tup et
        have hn7 := hnx row (List.mem_of_getElem? gr)
        have fj : (R.take (j + 1)).flatMap (ext1 gp) = (R.take j).flatMap (ext1 gp) ++ ext1 gp row := by
          rw [List.take_add_one, gr, List.flatMap_append]
          simp
        have hbig : ((R.take j).flatMap (ext1 gp)).length + (ext1 gp row).length ≤ 823543 := by
          rw [← List.length_append, ← fj]
          have e : R.flatMap (ext1 gp) = (R.take (j + 1)).flatMap (ext1 gp) ++ (R.drop (j + 1)).flatMap (ext1 gp) := by rw [← List.flatMap_append, List.take_append_drop]
          rw [e, List.length_append] at small
          omega
        have hys : ys.length = ((R.take j).flatMap (ext1 gp)).length := rm.length
        -- the range
        have rng : ∀ (R2 : It → Hp → Prop), R2 (Itr (nxt row : Int) (gp + 1 - nxt row)) H4 → iRng2 (tCons (tIf (fun σ H Q => tVar 4 σ H fun x H' => ∃ k, TruV K x H' k ∧ Q k H') (tOp (rI0 fun i j => .int (i + j)) (tOp (rIxT K) (tVar 4) (tUn (rU fun i => .int (-i)) (tC (.int 1)))) (tC (.int 1))) (tC (.int 0))) (tCons (tOp (rI0 fun i j => .int (i + j)) (tVar 2) (tC (.int 1))) tNil))
            [some (.ref a), some (.ref f), some (.int (gp : Int)), some (.ref m), some (.ref t), y5] H4 R2 := by
          intro R2 hR2
          have fin : ∀ z : Int, z = (nxt row : Int) → ∃ i j : Int, [V.int z, .int ((gp : Int) + 1)] = [.int i, .int j] ∧ (-(2 ^ 62) ≤ i ∧ i < 2 ^ 62 ∧ -(2 ^ 62) ≤ j ∧ j < 2 ^ 62) ∧ R2 (Itr i (j - i).toNat) H4 := by
            rintro z rfl
            refine ⟨_, _, rfl, ⟨by omega, by omega, by omega, by omega⟩, ?_⟩
            rw [show ((gp : Int) + 1 - (nxt row : Int)).toNat = gp + 1 - nxt row by omega]
            exact hR2
          rcases List.eq_nil_or_concat row with h0 | ⟨l, x, h0⟩
          · subst h0
            exact ⟨.ref t, rfl, false, .inr (.inl ⟨_, SqT.of et4, rfl⟩), .int (gp : Int), rfl, (gp : Int), 1, rfl, rfl, fin 0 rfl⟩
          · rw [List.concat_eq_append] at h0
            subst h0
            refine ⟨.ref t, rfl, true, .inr (.inl ⟨_, SqT.of et4, by rw [nV_snoc]; simp⟩), .ref t, rfl, (1 : Int), rfl, t, _, (-1 : Int), .int (x : Int), rfl, rfl, SqT.of et4, by rw [nV_snoc]; exact atI_last _ _, (x : Int), 1, rfl, rfl, .int (gp : Int), rfl, (gp : Int), 1, rfl, rfl, fin _ ?_⟩
            rw [nxt_snoc]
            omega
        refine ⟨.ref m, rfl, rng _ fun D nD => ?_⟩
        refine lc_R (walk_range (lo := (nxt row : Int)) (n := gp + 1 - nxt row)) (fun i zs H5 => Tups H5 zs ((ext1 gp row).take i)) nD (fun _ _ => trivial) (fun _ _ => .nil) (fun i zs H5 u u' r e => tups_upd r e) (fun k x H5 H6 zs hk k5 eD r5 y C C' hC _ => ?_) fun H5 zs k5 eD r5 => ?_
        · obtain ⟨rfl, rfl⟩ := y
          have ge := ext1_get (g := gp) (row := row) hk
          refine ⟨rfl, .ref t, rfl, t, nV row, rfl, .inl (SqT.of (k5.tup et4)), .int ((nxt row : Int) + ((k : Nat) : Int)), rfl, ?_, fun u nu => ?_⟩
          · rw [List.length_append, nV_len]
            show row.length + 1 ≤ sizeLine
            have hrl : row.length ≤ 7 := hrow row (List.mem_of_getElem? gr)
            exact Nat.le_of_lt (small1000 (by omega))
          · have k6 : Kp H6 (upd H6 u (.tup (nV row ++ [.int ((nxt row : Int) + ((k : Nat) : Int))]))) := Kp.new nu
            refine hC _ _ k6 ?_ ?_
            · have h1 := r5.length
              rw [List.length_take, ext1_len2] at h1
              exact small1000 (by omega)
            · rw [List.take_add_one, ge]
              refine (k6.tups r5).snoc ⟨u, rfl, ?_⟩
              rw [upd_same, nV_snoc, show (nxt row : Int) + ((k : Nat) : Int) = ((nxt row + k : Nat) : Int) by omega]
        · have k35 := k3.trans k5
          rw [← ext1_len2, List.take_length] at r5
          refine ⟨m, D, ys, zs, rfl, rfl, k5.lst em, eD, ?_, fun m2 nm2 => ?_⟩
          · rw [hys, r5.length]
            exact Nat.le_trans hbig (by decide)
          · refine ⟨m2, ys ++ zs, some (.ref t), y5, rfl, k35.trans (Kp.new nm2), k35.free nm2, upd_same, ?_⟩
            rw [fj]
            exact ((Kp.new nm2).tups (k5.tups rm)).append ((Kp.new nm2).tups r5)
      · obtain ⟨m, ys, y4, y5, rfl, k3, nm, em, rm⟩ := hp
        rw [r1.length, List.take_length, ← ft] at rm
        exact ⟨.ref m, rfl, m, ys, some (.int (gp : Int)), some (.ref m), y4, y5, rfl, k1.trans k3, k1.free nm, em, rm⟩
    · obtain ⟨f, xs, y2, y3, y4, y5, rfl, k1, nf, e1, r1⟩ := hp
      rw [nV_len, List.take_length] at r1
      exact ⟨.ref f, rfl, q H' f xs k1 nf e1 r1⟩
end
end K91
namespace K91
open PySem PySem.Spec PyProof.Rows L2
open GxR (TabB TabG Tabbed inv_tab sh_eta GenS keeps_refl keeps_tok)
/-! ### sum, sorted of a tuple of ints -/
section
variable {prog : Program} {w : World} {A : Around} {E : Value → Shared → Prop} {s : Shared}
/-- the heap behind a tuple's collecting -/
def gatherH (h : Heap) (vs : List Value) : Heap := (h.push (seqObj "list" #[] 0)).update h.objs.size (Obj.mapSeq (· ++ vs.toArray))
theorem gatherH_size (h : Heap) (vs : List Value) : (gatherH h vs).objs.size = h.objs.size + 1 := by
  unfold gatherH
  rw [Heap.size_update, size_push']
theorem gatherH_old {h : Heap} {vs : List Value} {b : Addr} {o : Obj} (e : h.get? b = some o) : (gatherH h vs).get? b = some o := by
  have lt : b < h.objs.size := Heap.lt_size e
  unfold gatherH
  rw [Heap.get?_update_ne _ _ _ _ (Nat.ne_of_lt lt)]
  exact Heap.get?_push_of_some _ e
theorem collect_tupK {l : Addr} {vs : List Value} {Q : List Value → Shared → Prop} (hl : s.heap.IsTuple l vs.toArray) (hz : vs.length ≤ sizeLine) (h : Q vs { s with heap := gatherH s.heap vs }) : wpAny (model prog w) A (collect (.ref l)) Q E s := by
  obtain ⟨o, ho, hc, n, hd⟩ := id hl
  have hN : (s.heap.push (seqObj "list" #[] 0)).get? s.heap.objs.size = some (seqObj "list" #[] 0) := Heap.get?_push_size _ rfl
  have hL : (s.heap.push (seqObj "list" #[] 0)).get? l = some o := Heap.get?_push_of_some _ ho
  unfold collect
  refine wpAny_bind (wpAny_runValue (codeAny_builtin entry_proto_collect' (wpAny_bind (wpAny_newList (wpAny_pure ⟨Code.quiet_builtin _ (by decide +kernel), codeAny_builtin entry_list_iadd' ?_⟩)))))
  show wpAny _ _ (Builtin.List.listExtendWith _ (.ref l) _) _ _ _
  unfold Builtin.List.listExtendWith
  refine wpAny_bind (wpAny_typeOf (T := "tuple") ⟨o, hL, hc⟩ ?_)
  have tt : (Value.type "tuple" == Value.type "tuple") = true := by rfl
  rw [if_pos (by rw [tt]; simp)]
  refine wpAny_bind (listItems_at hL hd (wpAny_bind (listItems_at hN rfl ?_)))
  rw [if_neg (by simp)]
  refine wpAny_bind (listUpdate_at hN rfl (wpAny_pure ?_) (Nat.zero_le _) (by simp only [Array.size_append, List.size_toArray, List.length_nil, Array.size_empty]; omega))
  refine wpAny_bind (wpAny_load (get?_update_seq hN _) ?_)
  show wpAny _ _ (pure ((#[] : Array Value) ++ vs.toArray).toList) Q E _
  rw [show ((#[] : Array Value) ++ vs.toArray).toList = vs by simp]
  exact wpAny_pure h
theorem sorted_tupK {l : Addr} {vs : List Value} {ns : List Int} {Q : Value → Shared → Prop} (hl : s.heap.IsTuple l vs.toArray) (hz : vs.length ≤ sizeLine) (hi : IntsAre vs ns)
    (h : ∀ out : List Value, IntsAre out (out.map SrtO.iv) → (out.map SrtO.iv).Perm ns → (out.map SrtO.iv).Pairwise (· ≤ ·) → Q (.ref (s.heap.objs.size + 1)) { s with heap := sortedAll s.heap vs out.toArray }) :
    wpAny (model prog w) A (call (.builtin "sorted") [.ref l]) Q E s := by
  refine Calls.call_function_entry kind_sorted plain_sorted entry_sorted (args_sorted1 _) ?_
  unfold Builtin.«sorted»
  refine wpAny_bind (m := checkCount "sorted" 1 1 _) (wpAny_pure ?_)
  refine wpAny_bind (collect_tupK hl hz ?_)
  refine wpAny_bind (wpAny_newList ?_ hz)
  have hp : ((gatherH s.heap vs).push (seqObj "list" vs.toArray 0)).get? (s.heap.objs.size + 1) = some (seqObj "list" vs.toArray 0) := by
    rw [← gatherH_size s.heap vs]
    exact Heap.get?_push_size _ rfl
  show wpAny _ _ _ _ _ { s with heap := (gatherH s.heap vs).push (seqObj "list" vs.toArray 0) }
  rw [gatherH_size]
  refine wpAny_bind (wpAny_holding (wpAny_call_entry slot_list_sort ⟨_, hp, rfl⟩ entry_list_sort (SrtO.list_sort_ord SrtO.swo_int hp hz (fun h2 => SrtO.ints_sortable hi h2) fun out hs hb => ⟨_, rfl, ?_⟩) (args_list_sort _)))
  obtain ⟨k1, k2, k3⟩ := SrtO.ints_out hi hs hb
  exact wpAny_pure ⟨_, rfl, h out k1 k2 k3⟩
theorem swo_none {α : Type} : SrtO.Swo (fun _ _ : α => false) := ⟨fun _ _ h => absurd h Bool.false_ne_true, fun _ _ _ _ _ => rfl⟩
end
section
variable {X : Cx}
theorem cr_sumT (hc : X.calm = true) : CallR X (.builtin "sum") (fun vs H Q => ∃ (a : Addr) (ns : List Int), vs = [V.ref a] ∧ H a = some (.tup (ns.map V.int)) ∧ Q (.int ns.sum) H) := by
  intro pins s σ H vs us Q I r h
  obtain ⟨a, ns, rfl, ha, q⟩ := h
  obtain ⟨its, rv, hl, _⟩ := I.tuple (SqT.of ha)
  rw [Vals.ref1 r]
  obtain ⟨xs, hx⟩ := rv.ints.allInts.items
  have hn : numsOf its.toArray.toList = ns := rv.ints.numsOf
  rw [hx] at hn
  rw [nums_intItems] at hn
  have hl2 : s.heap.IsTuple a (intItems xs) := by
    rw [← hx]
    exact hl
  refine PySem.W.ktm_sumG (I.ok.hd hc) hl2 fun h' tk t' hk => ?_
  rw [preSum_eq, List.take_of_length_le (by simp), hn]
  exact ⟨.int _, H, I.kept hk, ⟨_, rfl⟩, q⟩
theorem cr_sortTI : CallR X (.builtin "sorted") (fun vs H Q => ∃ (a : Addr) (ns : List Int), vs = [V.ref a] ∧ H a = some (.tup (ns.map V.int)) ∧
    ∀ (ns' : List Int) (p : Addr), ns'.Perm ns → ns'.Pairwise (· ≤ ·) → H p = none → Q (.ref p) (upd H p (.lst (ns'.map V.int)))) := by
  intro pins s σ H vs us Q I r h
  obtain ⟨a, ns, rfl, ha, q⟩ := h
  obtain ⟨its, rv, hl, hz⟩ := I.tuple (SqT.of ha)
  rw [Vals.ref1 r]
  refine sorted_tupK hl (by rw [← rv.length]; exact hz) rv.ints fun out k1 k2 k3 => ?_
  obtain ⟨ep, he⟩ := PyProof.Rows.sortedAll_at s.heap its out.toArray
  have len : ((out.map SrtO.iv).map V.int).length ≤ sizeLine := by
    rw [List.length_map] at hz ⊢
    rw [k2.length_eq]
    exact hz
  refine ⟨.ref _, upd H (s.heap.objs.size + 1) (.lst ((out.map SrtO.iv).map V.int)), I.laid (t' := s.toks) (fun _ _ => PyProof.Rows.sortedAll_old) (Nat.le_succ _) ⟨len, out, ep, vals_of_ints k1, he⟩, rfl, ?_⟩
  exact q _ _ k2 k3 (I.hok.fresh (Nat.le_succ _))
/-- a list of one item -/
theorem perm_one {α : Type} {out : List α} {v : α} (h : out.Perm [v]) : out = [v] := List.perm_singleton.mp h
theorem cr_sort1 : CallR X (.builtin "sorted") (fun vs H Q => ∃ (a : Addr) (x : V), vs = [V.ref a] ∧ H a = some (.lst [x]) ∧ ∀ p, H p = none → Q (.ref p) (upd H p (.lst [x]))) := by
  intro pins s σ H vs us Q I r h
  obtain ⟨a, x, rfl, ha, q⟩ := h
  obtain ⟨its, rv, hl, hz⟩ := I.list (SqL.of ha)
  rw [Vals.ref1 r]
  have h1 : its.length = 1 := rv.length.symm
  refine SrtO.sorted_ord swo_none hl.isList (by rw [h1]; decide) (fun h2 => absurd h2 (by rw [h1]; decide)) fun out _ hb => ?_
  have e : out = its := by
    obtain ⟨v, hv⟩ := List.length_eq_one_iff.mp h1
    have := hb.perm
    rw [hv] at this ⊢
    exact perm_one this
  rw [e]
  obtain ⟨ep, he⟩ := PyProof.Rows.sortedAll_at s.heap its its.toArray
  refine ⟨.ref _, upd H (s.heap.objs.size + 1) (.lst [x]), I.laid (t' := s.toks) (fun _ _ => PyProof.Rows.sortedAll_old) (Nat.le_succ _) ⟨hz, its, ep, rv, he⟩, rfl, q _ (I.hok.fresh (Nat.le_succ _))⟩
/-- tuples of d ints, fewer than 64; or one tuple -/
theorem cr_sortA : CallR X (.builtin "sorted") (fun vs H Q => (∃ (a : Addr) (x : V), vs = [V.ref a] ∧ H a = some (.lst [x]) ∧ ∀ p, H p = none → Q (.ref p) (upd H p (.lst [x]))) ∨ ∃ (d : Nat) (B : Int), 1 ≤ d ∧ rSortU X.K d B vs H Q) := by
  intro pins s σ H vs us Q I r h
  rcases h with h | ⟨d, B, hd, h⟩
  · exact cr_sort1 pins s σ H vs us Q I r h
  · exact cr_sortT hd pins s σ H vs us Q I r h
end
end K91
namespace K91
open PySem PySem.Spec PyProof.Rows L2
open GxR (TabB TabG Tabbed inv_tab sh_eta GenS keeps_refl keeps_tok)
/-! ### what all_of builds, how much it is -/
theorem add1_len (ps : List Nat) (found : List (List Nat)) (row : List Nat) : (add1 ps found row).length = found.length := by
  unfold add1
  rw [List.length_map]
theorem addAll_len (ps : List Nat) (found : List (List Nat)) : ∀ rows : List (List Nat), (rows.flatMap (add1 ps found)).length = found.length * rows.length
  | [] => by simp
  | r :: rs => by
    rw [List.flatMap_cons, List.length_append, add1_len, addAll_len ps found rs, List.length_cons, Nat.mul_succ, Nat.add_comm]
theorem allGo_app (one ps : List Nat) : ∀ (l : List (List Nat)) (found : List (List Nat)), allGo one (l ++ [ps]) found = (rrows (gaps ps one)).flatMap (add1 ps (allGo one l found))
  | [], _ => rfl
  | x :: r, found => allGo_app one ps r _
theorem mem_allGo_len (one : List Nat) : ∀ (l : List (List Nat)) (found : List (List Nat)) (m : Nat), (∀ p ∈ l, p.length ≤ 7) → (∀ r ∈ found, r.length ≤ m) → ∀ r ∈ allGo one l found, r.length ≤ m + 7 * l.length
  | [], found, m, _, h, r, hr => h r hr
  | ps :: l, found, m, h7, h, r, hr => by
    have := mem_allGo_len one l ((rrows (gaps ps one)).flatMap (add1 ps found)) (m + 7) (fun p hp => h7 p (List.mem_cons_of_mem _ hp)) (fun r hr => by
      obtain ⟨row, h0, h1⟩ := List.mem_flatMap.mp hr
      unfold add1 at h1
      obtain ⟨s, hs, rfl⟩ := List.mem_map.mp h1
      rw [List.length_append, List.length_map]
      have a1 := h s hs
      have a2 := mem_rowsGo_len (gaps ps one) [[]] 0 (fun r hr => by rw [List.mem_singleton.mp hr]; rfl) row h0
      have a3 := gapsGo_le one ps 0
      have a4 := h7 ps List.mem_cons_self
      unfold gaps at a2
      omega) r hr
    rw [List.length_cons]
    omega
theorem gapsGo_lt (one : List Nat) : ∀ (l : List Nat) (k : Nat), ∀ g ∈ gapsGo one k l, g < k + l.length
  | [], k, g, h => by cases h
  | p :: r, k, g, h => by
    have ih := gapsGo_lt one r (k + 1)
    unfold gapsGo at h
    rw [List.length_cons]
    cases hm : mem p one with
    | true =>
      rw [hm] at h
      have := ih g h
      omega
    | false =>
      rw [hm] at h
      rcases List.mem_cons.mp h with e | h
      · omega
      · have := ih g h
        omega
theorem rowsGo_mem {m : Nat} : ∀ (l : List Nat) (found : List (List Nat)), (∀ r ∈ found, ∀ x ∈ r, x < m) → (∀ g ∈ l, g < m) → ∀ r ∈ rowsGo l found, ∀ x ∈ r, x < m
  | [], _, h, _, r, hr, x, hx => h r hr x hx
  | g :: l, found, h, hg, r, hr, x, hx => by
    refine rowsGo_mem l (found.flatMap (ext1 g)) (fun r hr x hx => ?_) (fun g' h' => hg g' (List.mem_cons_of_mem _ h')) r hr x hx
    obtain ⟨r0, h0, h1⟩ := List.mem_flatMap.mp hr
    unfold ext1 at h1
    obtain ⟨i, hi, rfl⟩ := List.mem_map.mp h1
    have hi2 := List.mem_range.mp hi
    have := hg g List.mem_cons_self
    rcases List.mem_append.mp hx with q | q
    · exact h r0 h0 x q
    · rw [List.mem_singleton.mp q]
      omega
theorem rows_lt {ps ol row : List Nat} (h : row ∈ rrows (gaps ps ol)) : ∀ x ∈ row, x < ps.length := fun x hx =>
  rowsGo_mem (gaps ps ol) [[]] (fun r hr x hx => by rw [List.mem_singleton.mp hr] at hx; cases hx) (fun g hg => by
    have := gapsGo_lt ol ps 0 g hg
    omega) row h x hx
structure AllOk (n : Nat) (wl ol : List Nat) : Prop where
  len7 : ∀ ps ∈ bplaces n wl, ps.length ≤ 7
  few : ∀ i, (allGo ol ((bplaces n wl).take i) [[]]).length ≤ 63
  alike : ∀ d ∈ allD n wl ol, d.length = wl.length - ol.length ∧ ∀ x ∈ d, x < n
  le : ol.length ≤ wl.length
  one : wl.length - ol.length = 0 → (allD n wl ol).length = 1
theorem Al2.perm {α β : Type} {F : α → β → Prop} {as as' : List α} (p : as'.Perm as) : ∀ {bs : List β}, Al2 F as bs → ∃ bs', bs'.Perm bs ∧ Al2 F as' bs' := by
  induction p with
  | nil => exact fun h => ⟨_, .refl _, h⟩
  | cons x p ih =>
    intro bs h
    cases h with
    | cons h t =>
      obtain ⟨bs', q, t'⟩ := ih t
      exact ⟨_, q.cons _, .cons h t'⟩
  | swap x y l =>
    intro bs h
    cases h with
    | cons h1 t =>
      cases t with
      | cons h2 t => exact ⟨_, .swap _ _ _, .cons h2 (.cons h1 t)⟩
  | trans p1 p2 ih1 ih2 =>
    intro bs h
    obtain ⟨b2, q2, t2⟩ := ih2 h
    obtain ⟨b1, q1, t1⟩ := ih1 t2
    exact ⟨b1, q1.trans q2, t1⟩
theorem add1_get {ps row s : List Nat} {F : List (List Nat)} {k : Nat} (h : F[k]? = some s) : (add1 ps F row)[k]? = some (s ++ row.map (nth ps)) := by
  unfold add1
  rw [List.getElem?_map, h]
  rfl
theorem mapTake {f : List Nat → List Nat} {F : List (List Nat)} {k : Nat} {s : List Nat} (h : F[k]? = some s) : (F.map f).take (k + 1) = (F.map f).take k ++ [f s] := by
  rw [List.take_add_one, List.getElem?_map, h]
  rfl
/-! ### more rules -/
section
variable {X : Cx}
theorem call_tupleL : CallR X (.type "tuple") (fun vs H Q => ∃ p ys, vs = [.ref p] ∧ H p = some (.lst ys) ∧ ∀ l, H l = none → Q (.ref l) (upd H l (.tup ys))) := by
  intro pins s σ H xs us Q I r h
  obtain ⟨p, ys, rfl, ha, q⟩ := h
  exact call_tuple_of pins s σ H _ us Q I r ⟨p, ys, rfl, .inl ⟨SqL.of ha, q⟩⟩
end
def zP : Pos := ⟨0, 0, 0, 0⟩
def addE (st : Stmt) : Expr := match (defBody st).getD 2 (.Pass zP) with
  | .For _ _ b _ _ => match b.getD 1 (.Pass zP) with
    | .For _ _ c _ _ => match c.getD 0 (.Pass zP) with
      | .Assign _ (.BinOp _ _ r _) _ => r
      | _ => .Constant .none 0 zP
    | _ => .Constant .none 0 zP
  | _ => .Constant .none 0 zP
section
variable {P : Program} {w : World} {K : PySem.W.Frag} {mg : Str → Option Value} {base : Heap}
/-! ### all_of -/
def spAllOf (P2 : Addr) : Sp := fun vs H Q _ => ∃ (n : Nat) (a b : Addr) (wl ol : List Nat), vs = [.int (n : Int), .ref a, .ref b] ∧ n ≤ 9 ∧ H a = some (.tup (nV wl)) ∧ (∀ x ∈ wl, x < n) ∧ wl.length < n ∧ H b = some (.tup (nV ol)) ∧ TabG H P2 ∧
  ((ol.all fun x => mem x wl) = true → AllOk n wl ol) ∧ ∀ H' p xs D', Kp H H' → H p = none → H' p = some (.lst xs) → Tups H' xs D' → D'.Perm (if (ol.all fun x => mem x wl) = true then allD n wl ol else []) → Q (.ref p) H'
theorem ok_allof (D : Dx K mg "all_of" s_allof p_allof) (Dl : Dx K mg "lies_in" s_liesin p_liesin) (T2 : Tx mg base Dl.cdv) (Dp : Dx K mg "block_places" s_blockplaces p_blockplaces) (Db : Dx K mg "blocks_of" s_blocksof p_blocksof) (Dg : Dx K mg "gap_ranks" s_gapranks p_gapranks) (Dr : Dx K mg "rank_rows" s_rankrows p_rankrows) (B : Bz mg) :
    FnOk P w K mg base CX0 3 D.f D.fd p_allof (spAllOf T2.P) := by
  refine D.F.ok sc_allof (fun vs H Q E h => ?_) (fun A outer s H vs Q E hr h => ?_)
  · obtain ⟨n, a, b, wl, ol, rfl, _⟩ := h
    rfl
  · obtain ⟨n, a, b, wl, ol, rfl, h9, ha, hw, hwl, hb, hT2, hA, q⟩ := h
    have nd := sc_allof.nd
    refine ⟨_, pss_cons (ps_if (pt_not (pt_val (pe_call (ok_liesin Dl T2 B) (hr.mono (by decide)) rfl Dl.g Dl.F.kp Dl.b .nil pass0 (pa_cons (pv 1) (pa_cons (pv 2) pa_nil))))) (pss_one (ps_ret (pe_lst pa_nil))) pss_nil)
      (pss_cons (ps_set (i := 3) nd rfl (.inl rfl) (pe_lst (pa_cons (pe_tup pa_nil) pa_nil)))
      (pss_cons (ps_for PassesOwn.never rfl (pi_list (pe_call (ok_places Dp Db B) hr rfl Dp.g Dp.F.kp Dp.b .nil pass0 (pa_cons (pv 0) (pa_cons (pv 1) pa_nil)))) (pg_name (i := 4) nd rfl (.inr rfl) (.inl rfl))
        (pss_cons (ps_set (i := 5) nd rfl (.inl rfl) (pe_lst pa_nil))
        (pss_cons (ps_for PassesOwn.never rfl (pi_list (pe_call (ok_rows Dr B) (hr.mono (by decide)) rfl Dr.g Dr.F.kp Dr.b .nil pass0 (pa_cons (pe_call (ok_gaps Dg B) (hr.mono (by decide)) rfl Dg.g Dg.F.kp Dg.b .nil pass0 (pa_cons (pv 4) (pa_cons (pv 2) pa_nil))) pa_nil))) (pg_name (i := 6) nd rfl (.inr rfl) (.inl rfl))
          (pss_one (ps_set (i := 5) nd rfl (.inl rfl) (pe_op op_cat (pv 5)
            (pe_lc (own := [("some", 7)]) (g := gName 7) (te := tTup (StX.tStar K (tVar 7) (StX.tStar K (tLc (iTup K (tVar 6)) (gName 8) tYes (tOp (rIxL K) (tVar 4) (tVar 8)) [8]) tNil))) rfl nd
              (pi_list (pv 3)) (blkOk_by (N := n_allof) (sc := defScope s_allof) (by decide +kernel)) (fun _ _ _ _ _ => pg_name (i := 7) nd rfl (.inl rfl) (.inr rfl)) (fun _ _ _ _ _ => pts_nil)
              (fun _ _ _ _ _ => pe_tup (StX.pa_star (pv 7) (StX.pa_star (pe_lc (own := [("rank", 8)]) (g := gName 8) rfl nd (pi_tup (pv 6)) (blkOk_by (N := n_allof) (sc := relS (lcS (addE s_allof)) (defScope s_allof)) (by decide +kernel))
                (fun _ _ _ _ _ => pg_name (i := 8) nd rfl (.inl rfl) (.inr rfl)) (fun _ _ _ _ _ => pts_nil) (fun _ _ _ _ _ => pe_ix ix_list (pv 4) (pv 8) (fun _ _ => rfl))) pa_nil))))))))
        (pss_one (ps_set (i := 3) nd rfl (.inl rfl) (pv 5))))))
      (pss_one (ps_ret (pe_callB cr_sortA (by rfl) B.sorted (by decide +kernel) (pa_cons (pe_lc (own := [("some", 7)]) (g := gName 7) rfl nd (pi_list (pv 3)) (blkOk_by (N := n_allof) (sc := defScope s_allof) (by decide +kernel)) (fun _ _ _ _ _ => pg_name (i := 7) nd rfl (.inl rfl) (.inr rfl)) (fun _ _ _ _ _ => pts_nil)
        (fun _ _ _ _ _ => pe_callTy call_tupleL (by rfl) B.tuple (by decide +kernel) (pa_cons (pe_callB cr_sortTI (by rfl) B.sorted (by decide +kernel) (pa_cons (pv 7) pa_nil)) pa_nil))) pa_nil)))))), ?_⟩
    refine ⟨.ref a, rfl, .ref b, rfl, a, b, wl, ol, rfl, ha, hb, hT2, fun H1 k1 => ⟨_, rfl, ?_⟩⟩
    cases hin : (ol.all fun x => mem x wl) with
    | false =>
      refine iteT ⟨Nat.zero_le _, fun p np => ?_⟩
      exact q _ p [] [] (k1.trans (Kp.new np)) (k1.free np) upd_same .nil (by rw [hin]; exact .refl _)
    | true =>
    have hA := hA hin
    rw [hin] at q
    refine iteF ⟨Nat.zero_le _, fun t0 nt0 => ⟨(by decide : 1 ≤ sizeLine), fun f0 nf0 => ?_⟩⟩
    have nef : t0 ≠ f0 := fun z => by
      rw [z, upd_same] at nf0
      cases nf0
    have k2 : Kp H (upd (upd H1 t0 (.tup [])) f0 (.lst [.ref t0])) := k1.trans ((Kp.new nt0).trans (Kp.new nf0))
    refine ⟨.int (n : Int), rfl, .ref a, rfl, n, a, wl, rfl, k2.tup ha, hw, hwl, h9, fun H3 p3 bs k3 np3 e3 r3 => ?_⟩
    refine ⟨p3, rfl, ⟨_, SqL.of e3⟩, for_it (walk_list (xs := bs)) (fun i σ H' => ∃ f xs y4 y5 y6 y7 y8, σ = [some (.int (n : Int)), some (.ref a), some (.ref b), some (.ref f), y4, y5, y6, y7, y8] ∧ Kp H3 H' ∧ H' f = some (.lst xs) ∧ Tups H' xs (allGo ol ((bplaces n wl).take i) [[]]))
      ⟨f0, [.ref t0], none, none, none, none, none, rfl, Kp.refl _, k3.lst upd_same, .cons ⟨t0, rfl, k3.tup (by rw [upd_ne nef, upd_same]; rfl)⟩ .nil⟩ (fun i σ H' _ ⟨_, _, _, _, _, _, _, _, k, _⟩ => SqL.of (k.lst e3)) (fun i x σ H40 H4 hi hp y => ?_) fun σ H' hp => ?_⟩
    · obtain ⟨f, xs, y4, y5, y6, y7, y8, rfl, k4, ef, rf⟩ := hp
      obtain ⟨rfl, gx⟩ := y
      obtain ⟨ps, gp, t, rfl, et⟩ := r3.get' gx
      have h7 := hA.len7 ps (List.mem_of_getElem? gp)
      have small := hA.few (i + 1)
      have ft : allGo ol ((bplaces n wl).take (i + 1)) [[]] = (rrows (gaps ps ol)).flatMap (add1 ps (allGo ol ((bplaces n wl).take i) [[]])) := by
        rw [List.take_add_one, gp]
        exact allGo_app ol ps _ _
      rw [ft] at small
      have hF63 := hA.few i
      have hFl := mem_allGo_len ol ((bplaces n wl).take i) [[]] 0 (fun p hp => hA.len7 p (List.mem_of_mem_take hp)) (fun r hr => by rw [List.mem_singleton.mp hr]; exact Nat.le_refl _)
      have hbl := bplaces_len n wl
      have htl : ((bplaces n wl).take i).length ≤ (bplaces n wl).length := by
        rw [List.length_take]
        exact Nat.min_le_right _ _
      have hrl : ∀ row ∈ rrows (gaps ps ol), ∀ x ∈ row, x < ps.length := fun row h => rows_lt h
      have hrn : ∀ row ∈ rrows (gaps ps ol), row.length ≤ 7 := fun row h => by
        have a2 := mem_rowsGo_len (gaps ps ol) [[]] 0 (fun r hr => by rw [List.mem_singleton.mp hr]; rfl) row h
        have a3 := gapsGo_le ol ps 0
        unfold gaps at a2
        omega
      have hg6 : ∀ g ∈ gaps ps ol, g ≤ 6 := fun g hg => by
        have := gapsGo_lt ol ps 0 g hg
        omega
      have hg7 : (gaps ps ol).length ≤ 7 := Nat.le_trans (gapsGo_le ol ps 0) h7
      have hFl2 : ∀ s ∈ allGo ol ((bplaces n wl).take i) [[]], s.length ≤ 70 := fun s hs => by
        have := hFl s hs
        omega
      rw [← ft] at small
      generalize allGo ol ((bplaces n wl).take i) [[]] = F at *
      refine ⟨Nat.zero_le _, fun m0 nm0 => ?_⟩
      have k5 : Kp H4 (upd H4 m0 (.lst [])) := Kp.new nm0
      have kt := k4.trans k5
      refine ⟨.ref t, rfl, .ref b, rfl, t, b, ps, ol, rfl, kt.lst et, (k3.trans kt).tup (k2.tup hb), by omega, fun H6 g k6 ng eg => ?_⟩
      refine ⟨g, gaps ps ol, rfl, eg, hg6, hg7, fun H7 p7 rs k7 np7 e7 r7 => ?_⟩
      have k47 : Kp H4 H7 := (k5.trans k6).trans k7
      refine ⟨p7, rfl, ⟨_, SqL.of e7⟩, for_it (walk_list (xs := rs)) (fun j σ H' => ∃ m ys y6 y7 y8, σ = [some (.int (n : Int)), some (.ref a), some (.ref b), some (.ref f), some (.ref t), some (.ref m), y6, y7, y8] ∧ Kp H7 H' ∧ H' m = some (.lst ys) ∧ Tups H' ys (((rrows (gaps ps ol)).take j).flatMap (add1 ps F)))
        ⟨m0, [], y6, y7, y8, rfl, Kp.refl _, (k6.trans k7).lst upd_same, .nil⟩ (fun j σ H' _ ⟨_, _, _, _, _, _, k, _⟩ => SqL.of (k.lst e7)) (fun j x σ H80 H8 hj hp y => ?_) fun σ H' hp => ?_⟩
      · obtain ⟨m, ys, y6, y7, y8, rfl, k8, em, rm⟩ := hp
        obtain ⟨rfl, gx⟩ := y
        obtain ⟨row, gr, t6, rfl, et6⟩ := r7.get' gx
        have hrow := List.mem_of_getElem? gr
        have k48 := k47.trans k8
        have fj : ((rrows (gaps ps ol)).take (j + 1)).flatMap (add1 ps F) = ((rrows (gaps ps ol)).take j).flatMap (add1 ps F) ++ add1 ps F row := by
          rw [List.take_add_one, gr, List.flatMap_append]
          simp
        have hbig : (((rrows (gaps ps ol)).take j).flatMap (add1 ps F)).length + (add1 ps F row).length ≤ 63 := by
          rw [← List.length_append, ← fj]
          rw [ft] at small
          have e : (rrows (gaps ps ol)).flatMap (add1 ps F) = ((rrows (gaps ps ol)).take (j + 1)).flatMap (add1 ps F) ++ ((rrows (gaps ps ol)).drop (j + 1)).flatMap (add1 ps F) := by rw [← List.flatMap_append, List.take_append_drop]
          rw [e, List.length_append] at small
          omega
        have ef8 := k48.lst ef
        refine ⟨.ref m, rfl, .ref f, rfl, f, rfl, ⟨_, SqL.of ef8⟩, fun D nD => ?_⟩
        refine lc_R (walk_list (xs := xs)) (fun k zs H9 => Tups H9 zs ((add1 ps F row).take k)) nD (fun H9 k9 => SqL.of (k9.lst ef8)) (fun _ _ => .nil) (fun i zs H5 u u' r e => tups_upd r e) (fun k x H9 H10 zs hk k9 eD r9 y C C' hC _ => ?_) fun H9 zs k9 eD r9 => ?_
        · obtain ⟨rfl, gx⟩ := y
          obtain ⟨s, gs, t7, rfl, et7⟩ := (k48.tups rf).get' gx
          have hrl2 := hrl row hrow
          have hs70 := hFl2 s (List.mem_of_getElem? gs)
          have hrn2 := hrn row hrow
          refine ⟨rfl, .ref t7, rfl, t7, nV s, rfl, .inl (SqT.of (k9.tup et7)), .ref t6, rfl, t6, rfl, ⟨_, SqT.of (k9.tup (k8.tup et6))⟩, fun E nE => ?_⟩
          refine lc_acc (walk_tup (xs := nV row)) (fun j => nV ((row.map (nth ps)).take j)) rfl (fun j hj => by rw [nV_len, List.length_take, List.length_map]; exact small1000 (by omega)) nE (fun H11 k11 => SqT.of (k11.tup (k9.tup (k8.tup et6)))) (fun j x H11 H12 hj k11 y C2 C2' hC2 _ => ?_) fun H11 k11 e11 => ?_
          · obtain ⟨rfl, gx⟩ := y
            rw [nV_len] at hj
            have g : row[j]? = some row[j] := List.getElem?_eq_getElem hj
            have gx2 := (nV_get g).symm.trans gx
            cases gx2
            have hlt := hrl2 _ (List.getElem_mem hj)
            generalize row[j] = r at *
            have g2 : ps[r]? = some (nth ps r) := by
              unfold nth
              rw [List.getD_eq_getElem?_getD, List.getElem?_eq_getElem hlt]
              rfl
            refine ⟨rfl, .ref t, rfl, .int (r : Int), rfl, t, nV ps, (r : Int), .int (nth ps r : Int), rfl, rfl, SqL.of (k11.lst (k9.lst (k48.lst (k4.lst et)))), atI_nat (nV_get g2), hC2 _ _ (Kp.refl _) (nV_take ?_)⟩
            rw [List.getElem?_map, g]
            rfl
          · have ef2 : (row.map (nth ps)).take (nV row).length = row.map (nth ps) := by rw [nV_len, ← List.length_map (nth ps), List.take_length]
            rw [ef2] at e11
            refine ⟨E, _, rfl, .inr (SqL.of e11), ?_, fun u nu => ?_⟩
            · rw [List.length_append, List.append_nil, nV_len, nV_len, List.length_map]
              exact Nat.le_of_lt (small1000 (by omega))
            · refine hC _ _ (k11.trans (Kp.new nu)) ?_ ?_
              · have h1 := r9.length
                rw [List.length_take, add1_len] at h1
                exact small1000 (by omega)
              · rw [List.take_add_one, add1_get gs]
                refine ((k11.trans (Kp.new nu)).tups r9).snoc ⟨u, rfl, ?_⟩
                rw [upd_same, List.append_nil]
                unfold nV
                rw [List.map_append]
        · have hxs : xs.length = F.length := rf.length
          rw [hxs, ← add1_len ps F row, List.take_length] at r9
          refine ⟨m, D, ys, zs, rfl, rfl, k9.lst em, eD, ?_, fun m2 nm2 => ?_⟩
          · rw [rm.length, r9.length]
            exact Nat.le_trans hbig (by decide)
          · refine ⟨m2, ys ++ zs, some (.ref t6), y7, y8, rfl, (k8.trans k9).trans (Kp.new nm2), upd_same, ?_⟩
            rw [fj]
            exact ((Kp.new nm2).tups (k9.tups rm)).append ((Kp.new nm2).tups r9)
      · obtain ⟨m, ys, y6, y7, y8, rfl, k8, em, rm⟩ := hp
        rw [r7.length, List.take_length, ← ft] at rm
        exact ⟨.ref m, rfl, m, ys, some (.ref t), some (.ref m), y6, y7, y8, rfl, (k4.trans k47).trans k8, em, rm⟩
    · obtain ⟨f, xs, y4, y5, y6, y7, y8, rfl, k4, ef, rf⟩ := hp
      have hF := hA.few bs.length
      have hFl := mem_allGo_len ol ((bplaces n wl).take bs.length) [[]] 0 (fun p hp => hA.len7 p (List.mem_of_mem_take hp)) (fun r hr => by rw [List.mem_singleton.mp hr]; exact Nat.le_refl _)
      have hbl := bplaces_len n wl
      have hbs : bs.length = (bplaces n wl).length := r3.length
      rw [hbs, List.take_length] at hF hFl rf
      have hFe : allD n wl ol = (allGo ol (bplaces n wl) [[]]).map isort := rfl
      have hal := hA.alike
      have hone := hA.one
      rw [hFe] at q hal hone
      generalize allGo ol (bplaces n wl) [[]] = F at *
      refine ⟨.ref f, rfl, f, rfl, ⟨_, SqL.of ef⟩, fun D nD => ?_⟩
      refine lc_R (walk_list (xs := xs)) (fun k zs H9 => Tups H9 zs ((F.map isort).take k)) nD (fun H9 k9 => SqL.of (k9.lst ef)) (fun _ _ => .nil) (fun i zs H5 u u' r e => tups_upd r e) (fun k x H9 H10 zs hk k9 eD r9 y C C' hC _ => ?_) fun H9 zs k9 eD r9 => ?_
      · obtain ⟨rfl, gx⟩ := y
        obtain ⟨s, gs, t7, rfl, et7⟩ := rf.get' gx
        refine ⟨rfl, .ref t7, rfl, t7, _, rfl, by rw [← nV_eq]; exact k9.tup et7, fun ns' p pm srt np => ?_⟩
        have k10 : Kp H10 (upd H10 p (.lst (ns'.map V.int))) := Kp.new np
        refine ⟨p, _, rfl, upd_same, fun l nl => ?_⟩
        have k11 := k10.trans (Kp.new (o := .tup (ns'.map V.int)) nl)
        refine hC _ _ k11 ?_ ?_
        · have h1 := r9.length
          rw [List.length_take, List.length_map] at h1
          exact small1000 (by omega)
        · rw [mapTake gs]
          refine (k11.tups r9).snoc ⟨l, rfl, ?_⟩
          rw [upd_same, sortedI_nat pm srt, ← nV_eq]
      · have hxs : xs.length = F.length := rf.length
        rw [hxs, ← List.length_map isort, List.take_length] at r9
        have kk := ((k2.trans k3).trans k4).trans k9
        have nzl := r9.length
        by_cases h0 : wl.length - ol.length = 0
        · have h1 := hone h0
          have hz1 : zs.length = 1 := nzl.trans h1
          obtain ⟨z, rfl⟩ := List.length_eq_one_iff.mp hz1
          refine .inl ⟨D, z, rfl, eD, fun p np => ?_⟩
          exact q _ p _ _ (kk.trans (Kp.new np)) (kk.free np) upd_same ((Kp.new np).tups r9) (.refl _)
        · refine .inr ⟨wl.length - ol.length, (n : Int), by omega, D, zs, rfl, SqL.of eD, by rw [nzl, List.length_map]; omega, fun x hx => ?_, fun ys p pm srt np => ?_⟩
          · obtain ⟨i, hi, e⟩ := List.getElem_of_mem hx
            obtain ⟨d, gd, t, rfl, et⟩ := r9.get' (List.getElem?_eq_some_iff.mpr ⟨hi, e⟩)
            obtain ⟨a1, a2⟩ := hal d (List.mem_of_getElem? gd)
            refine ⟨d.map fun n : Nat => (n : Int), ⟨t, rfl, SqT.of (by rw [← nV_eq]; exact et)⟩, by rw [List.length_map]; exact a1, fun m hm => ?_⟩
            obtain ⟨x, hx, rfl⟩ := List.mem_map.mp hm
            have := a2 x hx
            omega
          · obtain ⟨D', pD, tD⟩ := r9.perm pm
            exact q _ p ys D' (kk.trans (Kp.new np)) (kk.free np) upd_same ((Kp.new np).tups tD) pD
end
end K91
namespace K91
open PySem PySem.Spec PyProof.Rows L2
open GxR (TabB TabG Tabbed inv_tab sh_eta GenS keeps_refl keeps_tok)
/-! ### counts, sums -/
def maxN : List Nat → Nat
  | [] => 0
  | x :: r => match Nat.ble x (maxN r) with
    | true => maxN r
    | false => x
theorem maxN_ge : ∀ {l : List Nat} {x : Nat}, x ∈ l → x ≤ maxN l
  | [], x, h => by cases h
  | y :: r, x, h => by
    have ih := @maxN_ge r
    unfold maxN
    cases e : Nat.ble y (maxN r) with
    | true =>
      have le : y ≤ maxN r := Nat.le_of_ble_eq_true e
      rcases List.mem_cons.mp h with q | q
      · show x ≤ maxN r
        omega
      · exact ih q
    | false =>
      have le : ¬ y ≤ maxN r := fun c => by rw [Nat.ble_eq_true_of_le c] at e; cases e
      rcases List.mem_cons.mp h with q | q
      · show x ≤ y
        omega
      · have := ih q
        show x ≤ y
        omega
theorem maxN_mem : ∀ {l : List Nat}, l ≠ [] → maxN l ∈ l
  | [], h => absurd rfl h
  | y :: r, _ => by
    unfold maxN
    cases e : Nat.ble y (maxN r) with
    | false => exact List.mem_cons_self
    | true =>
      show maxN r ∈ y :: r
      by_cases h : r = []
      · subst h
        have : y ≤ 0 := Nat.le_of_ble_eq_true e
        have : y = 0 := by omega
        rw [this]
        exact List.mem_cons_self
      · exact List.mem_cons_of_mem _ (maxN_mem h)
def cnt (x : Nat) : List Nat → Nat
  | [] => 0
  | y :: r => match Nat.beq x y with
    | true => cnt x r + 1
    | false => cnt x r
theorem cnt_eq (x : Nat) : ∀ l : List Nat, l.count x = cnt x l
  | [] => rfl
  | y :: r => by
    unfold cnt
    rw [List.count_cons, cnt_eq x r]
    cases e : Nat.beq x y with
    | true =>
      have : x = y := Nat.eq_of_beq_eq_true e
      simp [this]
    | false =>
      have : x ≠ y := Nat.ne_of_beq_eq_false e
      simp [Ne.symm this]
theorem count_nat (x : Nat) : ∀ l : List Nat, (l.map fun n : Nat => (n : Int)).count (x : Int) = cnt x l
  | [] => rfl
  | y :: r => by
    unfold cnt
    rw [List.map_cons, List.count_cons, count_nat x r]
    cases e : Nat.beq x y with
    | true =>
      have : x = y := Nat.eq_of_beq_eq_true e
      simp [this]
    | false =>
      have : x ≠ y := Nat.ne_of_beq_eq_false e
      have : (y : Int) ≠ (x : Int) := by omega
      simp [this]
theorem cnt_perm {x : Nat} {l m : List Nat} (p : l.Perm m) : cnt x l = cnt x m := by rw [← cnt_eq, ← cnt_eq, p.count_eq]
def countsOf : List Nat → List Nat
  | [] => []
  | x :: r => (List.range (maxN (x :: r) + 1)).map fun w => cnt w (x :: r)
def sumsD (n : Nat) (wl ol : List Nat) : List Nat := (allD n wl ol).map fun d => (walks n (ol ++ d)).sum
theorem maxN_perm {l m : List Nat} (p : l.Perm m) (h : l ≠ []) : maxN l = maxN m := by
  have h2 : m ≠ [] := fun e => h (by rw [e] at p; exact p.eq_nil)
  exact Nat.le_antisymm (maxN_ge (p.mem_iff.mp (maxN_mem h))) (maxN_ge (p.mem_iff.mpr (maxN_mem h2)))
theorem countsOf_perm {l m : List Nat} (p : l.Perm m) : countsOf l = countsOf m := by
  cases l with
  | nil => rw [List.Perm.nil_eq p]
  | cons x r =>
    cases m with
    | nil => exact absurd p.eq_nil (by simp)
    | cons y s =>
      show (List.range (maxN (x :: r) + 1)).map (fun w => cnt w (x :: r)) = (List.range (maxN (y :: s) + 1)).map fun w => cnt w (y :: s)
      rw [maxN_perm p (by simp)]
      exact List.map_congr_left fun w _ => cnt_perm p
theorem sum_le {c : Nat} : ∀ {l : List Nat}, (∀ x ∈ l, x ≤ c) → l.sum ≤ l.length * c
  | [], _ => by simp
  | x :: r, h => by
    rw [List.sum_cons, List.length_cons, Nat.succ_mul]
    have := h x List.mem_cons_self
    have := sum_le fun y hy => h y (List.mem_cons_of_mem x hy)
    omega
theorem walks_le {n : Nat} (hn : 0 < n) (l : List Nat) : ∀ x ∈ walks n l, x ≤ n := fun x hx => by
  obtain ⟨p, _, rfl⟩ := List.mem_map.mp hx
  exact Nat.le_of_lt (Nat.mod_lt _ hn)
/-- the counts' list, the most told as code tells it -/
theorem countsOf_take {S : List Nat} {m : Int} (hm : m ∈ (S.map fun n : Nat => (n : Int)) ++ [-1]) (hx : ∀ y ∈ (S.map fun n : Nat => (n : Int)) ++ [-1], y ≤ m) : countsOf S = (List.range (m + 1).toNat).map fun w => cnt w S := by
  cases S with
  | nil =>
    rw [List.map_nil, List.nil_append] at hm
    rw [List.mem_singleton.mp hm]
    rfl
  | cons x r =>
    have h1 := hx ((maxN (x :: r) : Nat) : Int) (List.mem_append_left _ (List.mem_map.mpr ⟨_, maxN_mem (by simp), rfl⟩))
    have e : m = ((maxN (x :: r) : Nat) : Int) := by
      rcases List.mem_append.mp hm with q | q
      · obtain ⟨y, hy, rfl⟩ := List.mem_map.mp q
        have := maxN_ge hy
        omega
      · have := List.mem_singleton.mp q
        omega
    rw [e, show (((maxN (x :: r) : Nat) : Int) + 1).toNat = maxN (x :: r) + 1 by omega]
    rfl
theorem allGo_len (one : List Nat) : ∀ (l : List (List Nat)) (found : List (List Nat)), (allGo one l found).length = l.foldl (fun acc ps => acc * (rrows (gaps ps one)).length) found.length
  | [], _ => rfl
  | ps :: r, found => by
    show (allGo one r _).length = _
    rw [allGo_len one r, addAll_len, List.foldl_cons]
/-! ### rules once more -/
section
variable {X : Cx}
theorem cr_sumL (hc : X.calm = true) : CallR X (.builtin "sum") (fun vs H Q => ∃ (a : Addr) (ns : List Int), vs = [V.ref a] ∧ H a = some (.lst (ns.map V.int)) ∧ Q (.int ns.sum) H) := by
  intro pins s σ H vs us Q I r h
  obtain ⟨a, ns, rfl, ha, q⟩ := h
  exact cr_sum hc pins s σ H _ us Q I r ⟨a, ns, rfl, SqL.of ha, q⟩
end
/-! ### all the facts at one place -/
structure Ax (K : PySem.W.Frag) (mg : Str → Option Value) (base : Heap) where
  B : Bz mg
  isin : Dx K mg "is_in" s_isin p_isin
  needsize : Dx K mg "need_size" s_needsize p_needsize
  arewishes : Dx K mg "are_wishes" s_arewishes p_arewishes
  needwishes : Dx K mg "need_wishes" s_needwishes p_needwishes
  isset : Dx K mg "is_set" s_isset p_isset
  needset : Dx K mg "need_set" s_needset p_needset
  spots : Dx K mg "spots_of" s_spotsof p_spotsof
  walks : Dx K mg "walks_of" s_walksof p_walksof
  whole : Dx K mg "whole_walk" s_wholewalk p_wholewalk
  blocks : Dx K mg "blocks_of" s_blocksof p_blocksof
  needwhole : Dx K mg "need_whole" s_needwhole p_needwhole
  needterms : Dx K mg "need_terms" s_needterms p_needterms
  liesin : Dx K mg "lies_in" s_liesin p_liesin
  places : Dx K mg "block_places" s_blockplaces p_blockplaces
  gaps : Dx K mg "gap_ranks" s_gapranks p_gapranks
  firstof : Dx K mg "first_of" s_firstof p_firstof
  firstd : Dx K mg "first_difference" s_firstdifference p_firstdifference
  lastof : Dx K mg "last_of" s_lastof p_lastof
  lastd : Dx K mg "last_difference" s_lastdifference p_lastdifference
  rows : Dx K mg "rank_rows" s_rankrows p_rankrows
  allof : Dx K mg "all_of" s_allof p_allof
  count : Dx K mg "difference_count" s_differencecount p_differencecount
  diffs : Dx K mg "differences" s_differences p_differences
  dwalks : Dx K mg "difference_walks" s_differencewalks p_differencewalks
  taken : Dx K mg "_law_taken" s_Ltaken p_Ltaken
  pick : Dx K mg "_law_pick" s_Lpick p_Lpick
  Lset : Dx K mg "_law_set" s_Lset p_Lset
  Lwhole : Dx K mg "_law_whole" s_Lwhole p_Lwhole
  within : Dx K mg "_law_within" s_Lwithin p_Lwithin
  ranks : Dx K mg "_law_ranks" s_Lranks p_Lranks
  law : Dx K mg "law" s_law p_law
  T1 : Tx mg base isset.cdv
  T2 : Tx mg base liesin.cdv
  T3 : Tx mg base arewishes.cdv
section
variable {P : Program} {w : World} {K : PySem.W.Frag} {mg : Str → Option Value} {base : Heap}
theorem Ax.nt (Y : Ax K mg base) : FnOk P w K mg base CX0 4 Y.needterms.f Y.needterms.fd p_needterms (spNeedTerms Y.T1.P) := ok_needterms Y.needterms Y.needwhole Y.needset Y.needsize Y.isset Y.T1 Y.isin Y.B
theorem Ax.li (Y : Ax K mg base) : FnOk P w K mg base CX0 1 Y.liesin.f Y.liesin.fd p_liesin (spLiesIn Y.T2.P) := ok_liesin Y.liesin Y.T2 Y.B
theorem Ax.al (Y : Ax K mg base) : FnOk P w K mg base CX0 3 Y.allof.f Y.allof.fd p_allof (spAllOf Y.T2.P) := ok_allof Y.allof Y.liesin Y.T2 Y.places Y.blocks Y.gaps Y.rows Y.B
theorem Ax.pl (Y : Ax K mg base) : FnOk P w K mg base CX0 2 Y.places.f Y.places.fd p_blockplaces spPlaces := ok_places Y.places Y.blocks Y.B
/-- the arguments of the differences' defs -/
structure Terms (H : Hp) (n : Nat) (a b : Addr) (wl ol : List Nat) (P1 P2 : Addr) : Prop where
  n2 : 2 ≤ n
  n9 : n ≤ 9
  ha : H a = some (.tup (nV wl))
  hw : IsSet n wl
  hwl : wl.length < n
  hb : H b = some (.tup (nV ol))
  ho : IsSet n ol
  hol : ol.length ≤ 1000
  t1 : TabG H P1
  t2 : TabG H P2
/-! ### first_difference -/
def spFirstD (P1 P2 : Addr) : Sp := fun vs H Q _ => ∃ (n : Nat) (a b : Addr) (wl ol : List Nat), vs = [.int (n : Int), .ref a, .ref b] ∧ Terms H n a b wl ol P1 P2 ∧ (ol.all fun x => mem x wl) = true ∧
  ∀ H' p, Kp H H' → H' p = some (.tup (nV (firstD n wl ol))) → Q (.ref p) H'
theorem ok_firstd (Y : Ax K mg base) : FnOk P w K mg base CX0 5 Y.firstd.f Y.firstd.fd p_firstdifference (spFirstD Y.T1.P Y.T2.P) := by
  refine Y.firstd.F.ok sc_firstdifference (fun vs H Q E h => ?_) (fun A outer s H vs Q E hr h => ?_)
  · obtain ⟨n, a, b, wl, ol, rfl, _⟩ := h
    rfl
  · obtain ⟨n, a, b, wl, ol, rfl, t, hin, q⟩ := h
    refine ⟨_, pss_cons (ps_expr (pe_call Y.nt hr rfl Y.needterms.g Y.needterms.F.kp Y.needterms.b .nil pass0 (pa_cons (pv 0) (pa_cons (pv 1) (pa_cons (pv 2) pa_nil)))))
      (pss_one (ps_ret (pe_ifExp (pt_val (pe_call Y.li (hr.mono (by decide)) rfl Y.liesin.g Y.liesin.F.kp Y.liesin.b .nil pass0 (pa_cons (pv 1) (pa_cons (pv 2) pa_nil)))) (pe_call (ok_firstof Y.firstof Y.places Y.blocks Y.gaps Y.B) (hr.mono (by decide)) rfl Y.firstof.g Y.firstof.F.kp Y.firstof.b .nil pass0 (pa_cons (pv 0) (pa_cons (pv 1) (pa_cons (pv 2) pa_nil)))) pe_non))), ?_⟩
    refine ⟨.int (n : Int), rfl, .ref a, rfl, .ref b, rfl, n, a, b, wl, ol, rfl, t.n2, t.n9, t.ha, t.hw, t.hwl, t.hb, t.ho, t.hol, t.t1, fun H1 k1 => ?_⟩
    refine ⟨.ref a, rfl, .ref b, rfl, a, b, wl, ol, rfl, k1.tup t.ha, k1.tup t.hb, k1.tabG t.t2, fun H2 k2 => ⟨_, rfl, ?_⟩⟩
    rw [hin]
    have k12 := k1.trans k2
    refine iteT ⟨.int (n : Int), rfl, .ref a, rfl, .ref b, rfl, n, a, b, wl, ol, rfl, k12.tup t.ha, t.hw.1, t.hwl, t.n9, k12.tup t.hb, fun H3 p k3 e => ?_⟩
    exact q H3 p (k12.trans k3) e
/-! ### difference_count -/
def spCount (P1 P2 : Addr) : Sp := fun vs H Q _ => ∃ (n : Nat) (a b : Addr) (wl ol : List Nat), vs = [.int (n : Int), .ref a, .ref b] ∧ Terms H n a b wl ol P1 P2 ∧ (ol.all fun x => mem x wl) = true ∧ AllOk n wl ol ∧
  ∀ H', Kp H H' → Q (.int ((allD n wl ol).length : Int)) H'
theorem ok_count (Y : Ax K mg base) : FnOk P w K mg base CX0 5 Y.count.f Y.count.fd p_differencecount (spCount Y.T1.P Y.T2.P) := by
  refine Y.count.F.ok sc_differencecount (fun vs H Q E h => ?_) (fun A outer s H vs Q E hr h => ?_)
  · obtain ⟨n, a, b, wl, ol, rfl, _⟩ := h
    rfl
  · obtain ⟨n, a, b, wl, ol, rfl, t, hin, hA, q⟩ := h
    have nd := sc_differencecount.nd
    refine ⟨_, pss_cons (ps_expr (pe_call Y.nt hr rfl Y.needterms.g Y.needterms.F.kp Y.needterms.b .nil pass0 (pa_cons (pv 0) (pa_cons (pv 1) (pa_cons (pv 2) pa_nil)))))
      (pss_cons (ps_if (pt_not (pt_val (pe_call Y.li (hr.mono (by decide)) rfl Y.liesin.g Y.liesin.F.kp Y.liesin.b .nil pass0 (pa_cons (pv 1) (pa_cons (pv 2) pa_nil))))) (pss_one (ps_ret pe_int)) pss_nil)
      (pss_cons (ps_set (i := 3) nd rfl (.inl rfl) pe_int)
      (pss_cons (ps_for PassesOwn.never rfl (pi_list (pe_call Y.pl (hr.mono (by decide)) rfl Y.places.g Y.places.F.kp Y.places.b .nil pass0 (pa_cons (pv 0) (pa_cons (pv 1) pa_nil)))) (pg_name (i := 4) nd rfl (.inl rfl))
        (pss_one (ps_set (i := 3) nd rfl (.inl rfl) (pe_op op_mul (pv 3) (pe_callB call_len_seq (by rfl) Y.B.len PySem.boot_len (pa_cons (pe_call (ok_rows Y.rows Y.B) (hr.mono (by decide)) rfl Y.rows.g Y.rows.F.kp Y.rows.b .nil pass0 (pa_cons (pe_call (ok_gaps Y.gaps Y.B) (hr.mono (by decide)) rfl Y.gaps.g Y.gaps.F.kp Y.gaps.b .nil pass0 (pa_cons (pv 4) (pa_cons (pv 2) pa_nil))) pa_nil)) pa_nil))))))
      (pss_one (ps_ret (pv 3)))))), ?_⟩
    refine ⟨.int (n : Int), rfl, .ref a, rfl, .ref b, rfl, n, a, b, wl, ol, rfl, t.n2, t.n9, t.ha, t.hw, t.hwl, t.hb, t.ho, t.hol, t.t1, fun H1 k1 => ?_⟩
    refine ⟨.ref a, rfl, .ref b, rfl, a, b, wl, ol, rfl, k1.tup t.ha, k1.tup t.hb, k1.tabG t.t2, fun H2 k2 => ⟨_, rfl, ?_⟩⟩
    rw [hin]
    have k12 := k1.trans k2
    refine iteF ?_
    refine ⟨.int (n : Int), rfl, .ref a, rfl, n, a, wl, rfl, k12.tup t.ha, t.hw.1, t.hwl, t.n9, fun H3 p3 bs k3 np3 e3 r3 => ?_⟩
    refine ⟨p3, rfl, ⟨_, SqL.of e3⟩, for_it (walk_list (xs := bs)) (fun i σ H' => ∃ y4, σ = [some (.int (n : Int)), some (.ref a), some (.ref b), some (.int ((allGo ol ((bplaces n wl).take i) [[]]).length : Int)), y4] ∧ Kp H3 H')
      ⟨none, rfl, Kp.refl _⟩ (fun i σ H' _ ⟨_, _, k⟩ => SqL.of (k.lst e3)) (fun i x σ H40 H4 hi hp y => ?_) fun σ H' hp => ?_⟩
    · obtain ⟨y4, rfl, k4⟩ := hp
      obtain ⟨rfl, gx⟩ := y
      obtain ⟨ps, gp, t5, rfl, et⟩ := r3.get' gx
      have h7 := hA.len7 ps (List.mem_of_getElem? gp)
      have hF := hA.few i
      have ft : (allGo ol ((bplaces n wl).take (i + 1)) [[]]).length = (allGo ol ((bplaces n wl).take i) [[]]).length * (rrows (gaps ps ol)).length := by
        rw [List.take_add_one, gp]
        show (allGo ol ((bplaces n wl).take i ++ [ps]) [[]]).length = _
        rw [allGo_app, addAll_len]
      refine ⟨_, rfl, .ref t5, rfl, .ref b, rfl, t5, b, ps, ol, rfl, k4.lst et, (k3.trans k4).tup (k12.tup t.hb), by omega, fun H6 g k6 ng eg => ?_⟩
      refine ⟨g, gaps ps ol, rfl, eg, fun g hg => by have := gapsGo_lt ol ps 0 g hg; omega, Nat.le_trans (gapsGo_le ol ps 0) h7, fun H7 p7 rs k7 np7 e7 r7 => ?_⟩
      refine ⟨p7, rs, rfl, .inl (SqL.of e7), _, _, rfl, rfl, .inl ⟨by omega, by omega⟩, ?_⟩
      refine ⟨some (.ref t5), ?_, (k4.trans k6).trans k7⟩
      rw [r7.length, ft, Int.natCast_mul]
      rfl
    · obtain ⟨y4, rfl, k4⟩ := hp
      refine ⟨_, rfl, ?_⟩
      have hb : bs.length = (bplaces n wl).length := r3.length
      rw [hb, List.take_length]
      have e : (allGo ol (bplaces n wl) [[]]).length = (allD n wl ol).length := by
        unfold allD
        rw [List.length_map]
      rw [e]
      exact q H' ((k12.trans k3).trans k4)
/-! ### differences -/
def spDiffs (P1 P2 : Addr) : Sp := fun vs H Q _ => ∃ (n : Nat) (a b : Addr) (wl ol : List Nat), vs = [.int (n : Int), .ref a, .ref b] ∧ Terms H n a b wl ol P1 P2 ∧ (ol.all fun x => mem x wl) = true ∧ AllOk n wl ol ∧
  ∀ H' p xs D', Kp H H' → H' p = some (.tup xs) → Tups H' xs D' → D'.Perm (allD n wl ol) → Q (.ref p) H'
theorem ok_diffs (Y : Ax K mg base) : FnOk P w K mg base CX0 5 Y.diffs.f Y.diffs.fd p_differences (spDiffs Y.T1.P Y.T2.P) := by
  refine Y.diffs.F.ok sc_differences (fun vs H Q E h => ?_) (fun A outer s H vs Q E hr h => ?_)
  · obtain ⟨n, a, b, wl, ol, rfl, _⟩ := h
    rfl
  · obtain ⟨n, a, b, wl, ol, rfl, t, hin, hA, q⟩ := h
    refine ⟨_, pss_cons (ps_expr (pe_call Y.nt hr rfl Y.needterms.g Y.needterms.F.kp Y.needterms.b .nil pass0 (pa_cons (pv 0) (pa_cons (pv 1) (pa_cons (pv 2) pa_nil)))))
      (pss_one (ps_ret (pe_callTy call_tupleL (by rfl) Y.B.tuple (by decide +kernel) (pa_cons (pe_call Y.al (hr.mono (by decide)) rfl Y.allof.g Y.allof.F.kp Y.allof.b .nil pass0 (pa_cons (pv 0) (pa_cons (pv 1) (pa_cons (pv 2) pa_nil)))) pa_nil)))), ?_⟩
    refine ⟨.int (n : Int), rfl, .ref a, rfl, .ref b, rfl, n, a, b, wl, ol, rfl, t.n2, t.n9, t.ha, t.hw, t.hwl, t.hb, t.ho, t.hol, t.t1, fun H1 k1 => ?_⟩
    refine ⟨.int (n : Int), rfl, .ref a, rfl, .ref b, rfl, n, a, b, wl, ol, rfl, t.n9, k1.tup t.ha, t.hw.1, t.hwl, k1.tup t.hb, k1.tabG t.t2, fun _ => hA, fun H2 p xs D' k2 np e r pm => ?_⟩
    rw [if_pos hin] at pm
    refine ⟨p, xs, rfl, e, fun l nl => ?_⟩
    exact q _ l xs D' ((k1.trans k2).trans (Kp.new nl)) upd_same ((Kp.new nl).tups r) pm
/-! ### difference_walks -/
def sumsL (n : Nat) (wl ol : List Nat) : List Nat := if (ol.all fun x => mem x wl) = true then sumsD n wl ol else []
def spDwalks (P1 P2 : Addr) : Sp := fun vs H Q _ => ∃ (n : Nat) (a b : Addr) (wl ol : List Nat), vs = [.int (n : Int), .ref a, .ref b] ∧ Terms H n a b wl ol P1 P2 ∧ ((ol.all fun x => mem x wl) = true → AllOk n wl ol) ∧
  ∀ H' p, Kp H H' → H' p = some (.tup (nV (countsOf (sumsL n wl ol)))) → Q (.ref p) H'
theorem ok_dwalks (Y : Ax K mg base) : FnOk P w K mg base CX0 5 Y.dwalks.f Y.dwalks.fd p_differencewalks (spDwalks Y.T1.P Y.T2.P) := by
  refine Y.dwalks.F.ok sc_differencewalks (fun vs H Q E h => ?_) (fun A outer s H vs Q E hr h => ?_)
  · obtain ⟨n, a, b, wl, ol, rfl, _⟩ := h
    rfl
  · obtain ⟨n, a, b, wl, ol, rfl, t, hA, q⟩ := h
    have nd := sc_differencewalks.nd
    refine ⟨_, pss_cons (ps_expr (pe_call Y.nt hr rfl Y.needterms.g Y.needterms.F.kp Y.needterms.b .nil pass0 (pa_cons (pv 0) (pa_cons (pv 1) (pa_cons (pv 2) pa_nil)))))
      (pss_cons (ps_set (i := 3) nd rfl (.inr rfl) (pe_lc (own := [("part", 4)]) (g := gName 4) (te := tCB (fun vs H Q => ∃ (a : Addr) (ns : List Int), vs = [V.ref a] ∧ H a = some (.lst (ns.map V.int)) ∧ Q (.int ns.sum) H) (tCons (tCall spWalks [] E (tCons (tVar 0) (tCons (tLst (StX.tStar K (tVar 2) (StX.tStar K (tVar 4) tNil))) tNil))) tNil)) rfl nd
          (pi_list (pe_call Y.al (hr.mono (by decide)) rfl Y.allof.g Y.allof.F.kp Y.allof.b .nil pass0 (pa_cons (pv 0) (pa_cons (pv 1) (pa_cons (pv 2) pa_nil))))) (blkOk_by (N := n_differencewalks) (sc := defScope s_differencewalks) (by decide +kernel))
          (fun _ _ _ _ _ => pg_name (i := 4) nd rfl (.inl rfl) (.inr rfl)) (fun _ _ _ _ _ => pts_nil)
          (fun _ _ _ _ _ => pe_callB (cr_sumL rfl) (by rfl) Y.B.sum (by decide +kernel) (pa_cons (pe_call (ok_walks Y.walks Y.spots Y.B) (hr.mono (by decide)) rfl Y.walks.g Y.walks.F.kp Y.walks.b .nil pass0 (pa_cons (pv 0) (pa_cons (pe_lst (StX.pa_star (pv 2) (StX.pa_star (pv 4) pa_nil))) pa_nil))) pa_nil))))
      (pss_one (ps_ret (pe_callTy call_tupleL (by rfl) Y.B.tuple (by decide +kernel) (pa_cons (pe_lc (own := [("walk", 5)]) (g := gName 5) (te := tBM K "list" (rCntI K) (tVar 3) (tCons (tVar 5) tNil)) rfl nd
          (pi_range1 (by rfl) Y.B.range (pa_cons (pe_op op_add (pe_callB (cr_max rfl) (by rfl) Y.B.max (by decide +kernel) (pa_cons (pe_lst (StX.pa_star (pv 3) (pa_cons (pe_un un_neg pe_int) pa_nil))) pa_nil)) pe_int) pa_nil)) (blkOk_by (N := n_differencewalks) (sc := defScope s_differencewalks) (by decide +kernel))
          (fun _ _ _ _ _ => pg_name (i := 5) nd rfl (.inl rfl) (.inr rfl)) (fun _ _ _ _ _ => pts_nil)
          (fun _ _ _ _ _ => pe_bm PySem.F.plainAttrs_list PySem.F.slot_list_count PySem.F.type_list_count mt_lcount (pv 3) (pa_cons (pv 5) pa_nil))) pa_nil))))), ?_⟩
    refine ⟨.int (n : Int), rfl, .ref a, rfl, .ref b, rfl, n, a, b, wl, ol, rfl, t.n2, t.n9, t.ha, t.hw, t.hwl, t.hb, t.ho, t.hol, t.t1, fun H1 k1 => ?_⟩
    refine ⟨.int (n : Int), rfl, .ref a, rfl, .ref b, rfl, n, a, b, wl, ol, rfl, t.n9, k1.tup t.ha, t.hw.1, t.hwl, k1.tup t.hb, k1.tabG t.t2, hA, fun H2 p xs D' k2 np e r pm => ?_⟩
    have k12 := k1.trans k2
    have n2 := t.n2
    have n9 := t.n9
    have hD : ∀ d ∈ D', (∀ x ∈ ol ++ d, x < n) ∧ (ol ++ d).length ≤ n := fun d hd => by
      by_cases hin : (ol.all fun x => mem x wl) = true
      · rw [if_pos hin] at pm
        obtain ⟨a1, a2⟩ := (hA hin).alike d (pm.mem_iff.mp hd)
        have le := (hA hin).le
        have hwl := t.hwl
        refine ⟨fun x hx => ?_, by rw [List.length_append, a1]; omega⟩
        rcases List.mem_append.mp hx with h | h
        · exact t.ho.1 x h
        · exact a2 x h
      · rw [if_neg hin] at pm
        rw [pm.eq_nil] at hd
        cases hd
    have h63 : D'.length ≤ 63 := by
      by_cases hin : (ol.all fun x => mem x wl) = true
      · rw [if_pos hin] at pm
        rw [pm.length_eq]
        unfold allD
        rw [List.length_map]
        have := (hA hin).few (bplaces n wl).length
        rw [List.take_length] at this
        exact this
      · rw [if_neg hin] at pm
        rw [pm.eq_nil]
        decide
    have hS : ((D'.map fun d => (walks n (ol ++ d)).sum)).Perm (sumsL n wl ol) := by
      unfold sumsL
      by_cases hin : (ol.all fun x => mem x wl) = true
      · rw [if_pos hin] at pm ⊢
        exact pm.map _
      · rw [if_neg hin] at pm ⊢
        rw [pm.eq_nil]
        exact .refl _
    have hs81 : ∀ x ∈ D'.map (fun d => (walks n (ol ++ d)).sum), x ≤ 81 := fun x hx => by
      obtain ⟨d, hd, rfl⟩ := List.mem_map.mp hx
      have h1 := sum_le (walks_le (show 0 < n by omega) (ol ++ d))
      rw [walks_len] at h1
      have h2 := (hD d hd).2
      have h3 := Nat.mul_le_mul (Nat.le_trans h2 n9) n9
      omega
    have hlen : (D'.map fun d => (walks n (ol ++ d)).sum).length ≤ 63 := by rw [List.length_map]; exact h63
    rw [← countsOf_perm hS] at q
    refine ⟨p, rfl, ⟨_, SqL.of e⟩, fun D nD => ?_⟩
    refine lc_acc (walk_list (xs := xs)) (fun i => nV (((D'.map fun d => (walks n (ol ++ d)).sum)).take i)) rfl (fun i hi => by rw [nV_len, List.length_take]; exact small1000 (by omega)) nD (fun H3 k3 => SqL.of (k3.lst e)) (fun i x H3 H4 hi k3 y C C' hC _ => ?_) fun H3 k3 e3 => ?_
    · obtain ⟨rfl, gx⟩ := y
      obtain ⟨d, gd, t5, rfl, et⟩ := r.get' gx
      obtain ⟨hd1, hd2⟩ := hD d (List.mem_of_getElem? gd)
      refine ⟨rfl, .int (n : Int), rfl, .ref b, rfl, b, nV ol, rfl, .inl (SqT.of (k3.tup (k12.tup t.hb))), .ref t5, rfl, t5, nV d, rfl, .inl (SqT.of (k3.tup et)), ?_, fun u nu => ?_⟩
      · rw [List.length_append, List.append_nil, nV_len, nV_len]
        rw [List.length_append] at hd2
        exact Nat.le_of_lt (small1000 (by omega))
      · have ku := Kp.new (o := .lst (nV ol ++ (nV d ++ []))) nu
        have eo : nV ol ++ (nV d ++ []) = nV (ol ++ d) := by
          rw [List.append_nil]
          unfold nV
          rw [List.map_append]
        refine ⟨n, u, ol ++ d, rfl, .inl (by rw [upd_same, eo]), hd1, hd2, by omega, n9, fun H5 p5 k5 np5 e5 => ?_⟩
        refine ⟨p5, (walks n (ol ++ d)).map fun n : Nat => (n : Int), rfl, by rw [← nV_eq]; exact e5, ?_⟩
        rw [sum_nat]
        refine hC _ _ (ku.trans k5) (nV_take ?_)
        rw [List.getElem?_map, gd]
        rfl
    · have hxs : xs.length = (D'.map fun d => (walks n (ol ++ d)).sum).length := by rw [r.length, List.length_map]
      rw [hxs, List.take_length] at e3
      generalize (D'.map fun d => (walks n (ol ++ d)).sum) = S at *
      refine ⟨.ref D, rfl, D, nV S, rfl, .inr (SqL.of e3), (1 : Int), rfl, ?_, fun u nu => ?_⟩
      · rw [List.length_append, nV_len]
        show S.length + 1 ≤ sizeLine
        exact Nat.le_of_lt (small1000 (by omega))
      · have eo : nV S ++ [V.int (-1)] = ((S.map fun n : Nat => (n : Int)) ++ [-1]).map V.int := by
          rw [List.map_append, ← nV_eq]
          rfl
        have ku := Kp.new (o := .lst (nV S ++ [V.int (-1)])) nu
        refine ⟨u, (S.map fun n : Nat => (n : Int)) ++ [-1], rfl, SqL.of (by rw [← eo]; exact upd_same), by simp, fun m hm hx => ?_⟩
        have hmb : -1 ≤ m ∧ m ≤ 81 := by
          refine ⟨hx (-1) (by simp), ?_⟩
          rcases List.mem_append.mp hm with h | h
          · obtain ⟨y, hy, rfl⟩ := List.mem_map.mp h
            have := hs81 y hy
            omega
          · rw [List.mem_singleton.mp h]
            decide
        have hc := countsOf_take hm hx
        refine ⟨m, 1, rfl, rfl, m + 1, rfl, by omega, by omega, fun E nE => ?_⟩
        refine lc_acc (walk_range (lo := 0) (n := (m + 1).toNat)) (fun i => nV ((countsOf S).take i)) rfl (fun i hi => by rw [nV_len, List.length_take]; exact small1000 (by omega)) nE (fun _ _ => trivial) (fun i x H4 H5 hi k4 y C C' hC _ => ?_) fun H4 k4 e4 => ?_
        · obtain ⟨rfl, rfl⟩ := y
          refine ⟨rfl, .ref D, rfl, ?_, .int ((0 : Int) + ((i : Nat) : Int)), rfl, D, (S.map fun n : Nat => (n : Int)), (0 : Int) + ((i : Nat) : Int), rfl, rfl, SqL.of (by rw [← nV_eq]; exact k4.lst (ku.lst e3)), ?_⟩
          · exact .inl ⟨rfl, _, SqL.of (k4.lst (ku.lst e3))⟩
          · rw [Int.zero_add, count_nat]
            refine hC _ _ (Kp.refl _) (nV_take ?_)
            rw [hc, List.getElem?_map, List.getElem?_range hi]
            rfl
        · have hl : (countsOf S).length = (m + 1).toNat := by rw [hc, List.length_map, List.length_range]
          rw [← hl, List.take_length] at e4
          refine ⟨E, _, rfl, e4, fun l nl => ?_⟩
          exact q _ l ((((k12.trans k3).trans ku).trans k4).trans (Kp.new nl)) upd_same
end
end K91
namespace K91
open PySem PySem.Spec PyProof.Rows L2
open GxR (TabB TabG Tabbed inv_tab sh_eta GenS keeps_refl keeps_tok)
/-! ### heaps: all stands but the row -/
structure KpR (R : Addr) (H H' : Hp) : Prop where
  same : ∀ b o, b ≠ R → H b = some o → (∀ ps, o ≠ .tbl ps) → H' b = some o
  tab : ∀ b ps, H b = some (.tbl ps) → ∃ ps', H' b = some (.tbl ps') ∧ (TriplesOk ps.toList → TriplesOk ps'.toList)
theorem KpR.of {R : Addr} {H H' : Hp} (k : Kp H H') : KpR R H H' := ⟨fun b o _ e n => k.same b o e n, k.tab⟩
theorem KpR.refl (R : Addr) (H : Hp) : KpR R H H := .of (Kp.refl H)
theorem KpR.trans {R : Addr} {H H1 H2 : Hp} (a : KpR R H H1) (b : KpR R H1 H2) : KpR R H H2 :=
  ⟨fun c o ne h n => b.same c o ne (a.same c o ne h n) n, fun c ps h => by
    obtain ⟨p1, h1, t1⟩ := a.tab c ps h
    obtain ⟨p2, h2, t2⟩ := b.tab c p1 h1
    exact ⟨p2, h2, fun t => t2 (t1 t)⟩⟩
theorem KpR.set {R : Addr} {H : Hp} {xs ys : List V} (h : H R = some (.lst xs)) : KpR R H (upd H R (.lst ys)) :=
  ⟨fun b o ne e _ => by rw [upd_ne ne]; exact e, fun b ps e => ⟨ps, by rw [upd_ne (ne_of e h (by intro z; cases z))]; exact e, fun t => t⟩⟩
theorem KpR.tabG {R : Addr} {H H' : Hp} (k : KpR R H H') {P : Addr} (t : TabG H P) : TabG H' P := by
  obtain ⟨ps, hP, ht⟩ := t
  obtain ⟨ps', hP', t'⟩ := k.tab P ps hP
  exact ⟨ps', hP', t' ht⟩
theorem KpR.tup {R : Addr} {H H' : Hp} (k : KpR R H H') {xs : List V} (hR : H R = some (.lst xs)) {a : Addr} {ys : List V} (h : H a = some (.tup ys)) : H' a = some (.tup ys) :=
  k.same a _ (ne_of h hR (by intro z; cases z)) h fun _ z => by cases z
theorem KpR.lst {R : Addr} {H H' : Hp} (k : KpR R H H') {a : Addr} {ys : List V} (ne : a ≠ R) (h : H a = some (.lst ys)) : H' a = some (.lst ys) := k.same a _ ne h fun _ z => by cases z
theorem KpR.mut {R : Addr} {H H' : Hp} {p : Addr} {o : HO} (k : KpR R H H') (h : H p = none) : KpR R H (upd H' p o) :=
  ⟨fun b u ne e n => by rw [upd_ne (ne_of_none e h)]; exact k.same b u ne e n, fun b ps e => by
    obtain ⟨ps', e', t⟩ := k.tab b ps e
    exact ⟨ps', by rw [upd_ne (ne_of_none e h)]; exact e', t⟩⟩
theorem KpR.sql {R : Addr} {K : PySem.W.Frag} {H H' : Hp} {a : Addr} {xs : List V} (k : KpR R H H') (ne : a ≠ R) (h : SqL K H a xs) : SqL K H' a xs := by
  rcases h with (h | ⟨o, h⟩) | h
  · exact .inl (.inl (k.lst ne h))
  · exact .inl (.inr ⟨o, k.same _ _ ne h fun _ z => by cases z⟩)
  · exact .inr h
/-- the law's row: the script, how much of it is read, two numbers -/
structure RowAt (K : PySem.W.Frag) (H : Hp) (R a : Addr) (ns : List Int) (i s r : Int) : Prop where
  h : H R = some (.lst [.ref a, .int i, .int s, .int r])
  sq : ∀ H', KpR R H H' → SqL K H' a (ns.map V.int)
  few : ns.length ≤ 63
  i0 : 0 ≤ i
  s0 : 0 ≤ s
  r0 : 0 ≤ r
def RowOk (K : PySem.W.Frag) (H : Hp) (R a : Addr) (ns : List Int) : Prop := ∃ i s r, RowAt K H R a ns i s r
theorem RowAt.set {K : PySem.W.Frag} {H : Hp} {R a : Addr} {ns : List Int} {i s r : Int} (x : RowAt K H R a ns i s r) {i' s' r' : Int} (hi : 0 ≤ i') (hs : 0 ≤ s') (hr : 0 ≤ r') : RowAt K (upd H R (.lst [.ref a, .int i', .int s', .int r'])) R a ns i' s' r' :=
  ⟨upd_same, fun H' k => x.sq H' ((KpR.set x.h).trans k), x.few, hi, hs, hr⟩
theorem RowOk.kp {K : PySem.W.Frag} {H H' : Hp} {R a : Addr} {ns : List Int} (x : RowOk K H R a ns) (k : Kp H H') : RowOk K H' R a ns := by
  obtain ⟨i, s, r, x⟩ := x
  exact ⟨i, s, r, k.lst x.h, fun H' k' => x.sq H' ((KpR.of k).trans k'), x.few, x.i0, x.s0, x.r0⟩
/-- an object is written that H1, where the row stood, did not know -/
theorem RowOk.mut {K : PySem.W.Frag} {H1 H : Hp} {R a D : Addr} {ns : List Int} {o : HO} (x1 : RowOk K H1 R a ns) (k : KpR R H1 H) (x : RowOk K H R a ns) (hD : H1 D = none) : RowOk K (upd H D o) R a ns := by
  obtain ⟨i1, s1, r1, x1⟩ := x1
  obtain ⟨i, s, r, x⟩ := x
  have ne : R ≠ D := fun z => by
    have := x1.h
    rw [z, hD] at this
    cases this
  exact ⟨i, s, r, by rw [upd_ne ne]; exact x.h, fun H' k' => x1.sq H' ((k.mut hD).trans k'), x.few, x.i0, x.s0, x.r0⟩
theorem RowOk.list {K : PySem.W.Frag} {H : Hp} {R a : Addr} {ns : List Int} (x : RowOk K H R a ns) : ∃ xs, H R = some (.lst xs) := by
  obtain ⟨i, s, r, x⟩ := x
  exact ⟨_, x.h⟩
theorem KpR.tupO {K : PySem.W.Frag} {R a : Addr} {ns : List Int} {H H' : Hp} (k : KpR R H H') (x : RowOk K H R a ns) {p : Addr} {ys : List V} (h : H p = some (.tup ys)) : H' p = some (.tup ys) := by
  obtain ⟨xs, e⟩ := x.list
  exact k.tup e h
/-! ### a comprehension whose turns move the row -/
section
variable {J : It} {n : Nat} {G : Hp → Prop} {Y : Nat → Hp → V → Hp → Prop} {g : TG} {tt : TT} {te : TE} {vs : List Nat} {σ : L2.St} {H1 : Hp} {D R a : Addr} {ns : List Int} {K : PySem.W.Frag} {Qd : Hp → Prop}
theorem lc_row (w : Walk J n G Y) (T : Nat → List V → Prop) (hD : H1 D = none) (x1 : RowOk K H1 R a ns) (hG : ∀ H, KpR R H1 H → G H) (h0 : T 0 [])
    (hs : ∀ i x H H' xs, i < n → KpR R H1 H → RowOk K H R a ns → T i xs → Y i H x H' → ∀ (C : V → Hp → Prop) (C' : Hp → Prop), (∀ y H4, KpR R H H4 → RowOk K H4 R a ns → xs.length < sizeLine → T (i + 1) (xs ++ [y]) → C y H4) → (∀ H3, KpR R H H3 → RowOk K H3 R a ns → T (i + 1) xs → C' H3) →
      g x (wipe σ vs) H' fun σ2 H2 => wipe σ2 vs = wipe σ vs ∧ tt σ2 H2 fun b H3 => if b = true then te σ2 H3 C else C' H3)
    (hd : ∀ H xs, KpR R H1 H → RowOk K H R a ns → H D = some (.lst xs) → T n xs → Qd H) :
    ∃ W : Nat → Nat → Hp → Prop, (∃ m, W 0 m (upd H1 D (.lst []))) ∧ ∀ i m H, W i m H →
      (J.stop i H ∧ Qd H) ∨ (J.go i H ∧ ∃ Nx : Hp → Prop, (∀ H', Nx H' → ∃ m', m' < m ∧ W (i + 1) m' H') ∧ ∀ x H', J.yld i H x H' → g x (wipe σ vs) H' fun σ2 H2 => wipe σ2 vs = wipe σ vs ∧ tt σ2 H2 fun b H3 =>
        if b = true then te σ2 H3 fun y H4 => ∃ acc, H4 D = some (.lst acc) ∧ acc.length < sizeLine ∧ Nx (upd H4 D (.lst (acc ++ [y]))) else Nx H3) := by
  have ne : D ≠ R := fun z => by
    obtain ⟨xs, e⟩ := x1.list
    rw [← z, hD] at e
    cases e
  refine lc_it w (fun i H => KpR R H1 H ∧ RowOk K H R a ns ∧ ∃ xs, H D = some (.lst xs) ∧ T i xs) ⟨(KpR.refl R H1).mut hD, x1.mut (.refl R H1) x1 hD, [], upd_same, h0⟩ (fun i H _ p => hG H p.1) (fun i x H H' hi p y => ?_) fun H p => ?_
  · obtain ⟨k, xo, xs, e, r⟩ := p
    refine hs i x H H' xs hi k xo r y _ _ (fun v H4 k4 x4 hz r4 => ?_) fun H3 k3 x3 r3 => ⟨k.trans k3, x3, xs, k3.lst ne e, r3⟩
    exact ⟨xs, k4.lst ne e, hz, (k.trans k4).mut hD, x1.mut (k.trans k4) x4 hD, xs ++ [v], upd_same, r4⟩
  · obtain ⟨k, xo, xs, e, r⟩ := p
    exact hd H xs k xo e r
end
section
variable {P : Program} {w : World} {K : PySem.W.Frag} {mg : Str → Option Value} {base : Heap}
/-! ### _law_taken -/
def spTaken (K : PySem.W.Frag) : Sp := fun vs H Q _ => ∃ (R a : Addr) (ns : List Int) (m : Int), vs = [.ref R, .int m] ∧ 1 ≤ m ∧ m ≤ 64 ∧ RowOk K H R a ns ∧ ∀ H' (v : Nat), KpR R H H' → RowOk K H' R a ns → (v : Int) < m → Q (.int (v : Int)) H'
theorem mod_nat {x m : Int} (hm : 1 ≤ m) : ∃ v : Nat, x % m = (v : Int) ∧ (v : Int) < m := by
  have h1 := Int.emod_nonneg x (show m ≠ 0 by omega)
  have h2 := Int.emod_lt_of_pos x (show 0 < m by omega)
  exact ⟨(x % m).toNat, by omega, by omega⟩
theorem ok_taken (D : Dx K mg "_law_taken" s_Ltaken p_Ltaken) (B : Bz mg) : FnOk P w K mg base CX0 1 D.f D.fd p_Ltaken (spTaken K) := by
  refine D.F.ok sc_Ltaken (fun vs H Q E h => ?_) (fun A outer s H vs Q E hr h => ?_)
  · obtain ⟨R, a, ns, m, rfl, _⟩ := h
    rfl
  · obtain ⟨R, a, ns, m, rfl, hm1, hm2, ⟨i, s, r, x⟩, q⟩ := h
    have nd := sc_Ltaken.nd
    refine ⟨_, pss_cons (ps_if (pt_cmpR op_gt (pe_ix ix_list (pv 0) pe_int (fun _ _ => rfl)) pe_int (nomark _))
        (pss_cons (ps_set (i := 2) nd rfl (.inl rfl) (pe_op op_mod (pe_callTy call_int1 (by rfl) B.int (by decide +kernel) (pa_cons (pe_ix ix_list (pv 0) pe_int (fun _ _ => rfl)) pa_nil)) (pv 1)))
        (pss_cons (ps_asg (pe_op op_fdiv (pe_ix ix_list (pv 0) pe_int (fun _ _ => rfl)) (pv 1)) (pg_sub (pv 0) pe_int set_list))
        (pss_one (ps_ret (pv 2))))) pss_nil)
      (pss_cons (ps_asg (pe_op op_add (pe_ix ix_list (pv 0) pe_int (fun _ _ => rfl)) pe_int) (pg_sub (pv 0) pe_int set_list))
      (pss_cons (ps_if (pt_cmpR op_gt (pe_ix ix_list (pv 0) pe_int (fun _ _ => rfl)) (pe_callB call_len_seq (by rfl) B.len PySem.boot_len (pa_cons (pe_ix ix_list (pv 0) pe_int (fun _ _ => rfl)) pa_nil)) (nomark _))
        (pss_cons (ps_asg (pe_op op_mod (pe_callTy call_int1 (by rfl) B.int (by decide +kernel) (pa_cons (pe_op op_add (pe_op op_mul (pe_ix ix_list (pv 0) pe_int (fun _ _ => rfl)) pe_int) pe_int) pa_nil)) pe_int) (pg_sub (pv 0) pe_int set_list))
        (pss_one (ps_ret (pe_op op_mod (pe_callTy call_int1 (by rfl) B.int (by decide +kernel) (pa_cons (pe_op op_fdiv (pe_ix ix_list (pv 0) pe_int (fun _ _ => rfl)) pe_int) pa_nil)) (pv 1))))) pss_nil)
      (pss_cons (ps_set (i := 3) nd rfl (.inl rfl) (pe_ix ix_list (pe_ix ix_list (pv 0) pe_int (fun _ _ => rfl)) (pe_op op_sub (pe_ix ix_list (pv 0) pe_int (fun _ _ => rfl)) pe_int) (fun _ _ => rfl)))
      (pss_cons (ps_asg (pe_op op_mod (pe_callTy call_int1 (by rfl) B.int (by decide +kernel) (pa_cons (pe_op op_add (pe_op op_add (pe_op op_mul (pe_ix ix_list (pv 0) pe_int (fun _ _ => rfl)) pe_int) (pv 3)) pe_int) pa_nil)) pe_int) (pg_sub (pv 0) pe_int set_list))
      (pss_cons (ps_if (pt_cmpR op_ge (pv 3) (pe_op op_pow pe_int pe_int) (nomark _)) (pss_one (ps_asg (pe_op op_fdiv (pv 3) (pv 1)) (pg_sub (pv 0) pe_int set_list))) pss_nil)
      (pss_one (ps_ret (pe_op op_mod (pe_callTy call_int1 (by rfl) B.int (by decide +kernel) (pa_cons (pv 3) pa_nil)) (pv 1))))))))), ?_⟩
    refine ⟨.ref R, rfl, R, _, 3, .int r, rfl, rfl, SqL.of x.h, rfl, r, 0, rfl, rfl, _, rfl, ?_⟩
    by_cases hr0 : 0 < r
    · rw [decide_eq_true hr0]
      obtain ⟨v, ev, lv⟩ := mod_nat (x := r) hm1
      refine iteT ⟨.ref R, rfl, R, _, 3, .int r, rfl, rfl, SqL.of x.h, rfl, .inl ⟨r, rfl, .int m, rfl, r, m, rfl, rfl, (by show (0 : Int) < m; omega), ?_⟩⟩
      refine ⟨.ref R, rfl, R, _, 3, .int r, rfl, rfl, SqL.of x.h, rfl, .int m, rfl, r, m, rfl, rfl, ⟨by omega, by omega⟩, .ref R, rfl, R, _, 3, 3, rfl, rfl, x.h, rfl, ?_⟩
      refine ⟨.int (r % m), rfl, ?_⟩
      show Q (.int (r % m)) _
      rw [ev]
      exact q _ v (KpR.set x.h) ⟨i, s, r / m, x.set x.i0 x.s0 (Int.ediv_nonneg x.r0 (by omega))⟩ lv
    · rw [decide_eq_false hr0]
      refine iteF ?_
      refine ⟨.ref R, rfl, R, _, 1, .int i, rfl, rfl, SqL.of x.h, rfl, i, 1, rfl, rfl, .ref R, rfl, R, _, 1, 1, rfl, rfl, x.h, rfl, ?_⟩
      have i0 := x.i0
      have k1 := KpR.set (ys := [.ref a, .int (i + 1), .int s, .int r]) x.h
      have x1 := x.set (i' := i + 1) (s' := s) (r' := r) (by omega) x.s0 x.r0
      show _
      refine ⟨.ref R, rfl, R, _, 1, .int (i + 1), rfl, rfl, SqL.of x1.h, rfl, .ref R, rfl, R, _, 0, .ref a, rfl, rfl, SqL.of x1.h, rfl, a, _, rfl,   .inl (x1.sq _ (.refl _ _)), i + 1, _, rfl, rfl, _, rfl, ?_⟩
      rw [List.length_map]
      by_cases hi : (ns.length : Int) < i + 1
      · rw [decide_eq_true hi]
        refine iteT ⟨.ref R, rfl, R, _, 2, .int s, rfl, rfl, SqL.of x1.h, rfl, s, 48271, rfl, rfl, .inr ⟨by decide, by decide⟩, _, 11, rfl, rfl, .inl ⟨_, rfl, _, 2147483647, rfl, rfl, (by decide : (0 : Int) < 2147483647), .ref R, rfl, R, _, 2, 2, rfl, rfl, x1.h, rfl, ?_⟩⟩
        have k2 := k1.trans (KpR.set (ys := [.ref a, .int (i + 1), .int ((s * 48271 + 11) % 2147483647), .int r]) x1.h)
        have s2 := Int.emod_nonneg (s * 48271 + 11) (show (2147483647 : Int) ≠ 0 by decide)
        have x2 := x1.set (i' := i + 1) (r' := r) x1.i0 s2 x1.r0
        obtain ⟨v, ev, lv⟩ := mod_nat (x := (s * 48271 + 11) % 2147483647 / 7) hm1
        refine ⟨.ref R, rfl, R, _, 2, .int ((s * 48271 + 11) % 2147483647), rfl, rfl, SqL.of x2.h, rfl, _, 7, rfl, rfl, ⟨by decide, by decide⟩, .inl ⟨_, rfl, .int m, rfl, _, m, rfl, rfl, (by show (0 : Int) < m; omega), ?_⟩⟩
        show Q (.int ((s * 48271 + 11) % 2147483647 / 7 % m)) _
        rw [ev]
        exact q _ v k2 ⟨_, _, _, x2⟩ lv
      · rw [decide_eq_false hi]
        refine iteF ?_
        obtain ⟨j, hj, ej⟩ : ∃ j : Nat, j < ns.length ∧ i = (j : Int) := ⟨i.toNat, by omega, by omega⟩
        have gj : (ns.map V.int)[j]? = some (.int ns[j]) := by rw [List.getElem?_map, List.getElem?_eq_getElem hj]; rfl
        generalize ns[j] = c at gj
        refine ⟨.ref R, rfl, R, _, 0, .ref a, rfl, rfl, SqL.of x1.h, rfl, .ref R, rfl, R, _, 1, .int (i + 1), rfl, rfl, SqL.of x1.h, rfl, i + 1, 1, rfl, rfl, a, _, (i + 1 - 1), .int c, rfl, rfl, x1.sq _ (.refl _ _), ?_, ?_⟩
        · rw [show i + 1 - 1 = (j : Int) by omega]
          exact atI_nat gj
        refine ⟨.ref R, rfl, R, _, 2, .int s, rfl, rfl, SqL.of x1.h, rfl, s, 48271, rfl, rfl, .inr ⟨by decide, by decide⟩, .int c, rfl, _, c, rfl, rfl, _, 11, rfl, rfl, .inl ⟨_, rfl, _, 2147483647, rfl, rfl, (by decide : (0 : Int) < 2147483647), .ref R, rfl, R, _, 2, 2, rfl, rfl, x1.h, rfl, ?_⟩⟩
        have k2 := k1.trans (KpR.set (ys := [.ref a, .int (i + 1), .int ((s * 48271 + c + 11) % 2147483647), .int r]) x1.h)
        have s2 := Int.emod_nonneg (s * 48271 + c + 11) (show (2147483647 : Int) ≠ 0 by decide)
        have x2 := x1.set (i' := i + 1) (r' := r) x1.i0 s2 x1.r0
        obtain ⟨v, ev, lv⟩ := mod_nat (x := c) hm1
        refine ⟨.int c, rfl, 10, 18, rfl, rfl, ⟨by decide, by decide, by decide⟩, c, _, rfl, rfl, _, rfl, ?_⟩
        by_cases hc : (10 : Int) ^ (18 : Int).toNat ≤ c
        · rw [decide_eq_true hc]
          have hc0 : 0 ≤ c := Int.le_trans (by decide) hc
          refine iteT ⟨.int c, rfl, .int m, rfl, c, m, rfl, rfl, ⟨by omega, by omega⟩, .ref R, rfl, R, _, 3, 3, rfl, rfl, x2.h, rfl, ?_⟩
          have x3 := x2.set (i' := i + 1) (r' := c / m) x2.i0 x2.s0 (Int.ediv_nonneg hc0 (by omega))
          refine ⟨.int c, rfl, .inl ⟨c, rfl, .int m, rfl, c, m, rfl, rfl, (by show (0 : Int) < m; omega), ?_⟩⟩
          show Q (.int (c % m)) _
          rw [ev]
          exact q _ v (k2.trans (KpR.set x2.h)) ⟨_, _, _, x3⟩ lv
        · rw [decide_eq_false hc]
          refine iteF ⟨.int c, rfl, .inl ⟨c, rfl, .int m, rfl, c, m, rfl, rfl, (by show (0 : Int) < m; omega), ?_⟩⟩
          show Q (.int (c % m)) _
          rw [ev]
          exact q _ v k2 ⟨_, _, _, x2⟩ lv
end
end K91
namespace K91
open PySem PySem.Spec PyProof.Rows L2
open GxR (TabB TabG Tabbed inv_tab sh_eta GenS keeps_refl keeps_tok)
/-! ### what the law draws, in plain words -/
theorem isort_strict {l : List Nat} (h : l.Nodup) : (isort l).Pairwise (· < ·) :=
  ((isort_sorted l).and ((isort_perm l).nodup_iff.mpr h)).imp fun h => by
    obtain ⟨h1, h2⟩ := h
    omega
theorem mod_two {f k n : Nat} (hf : f < n) (hk : k < n) : (f + k) % n = if f + k < n then f + k else f + k - n := by
  by_cases h : f + k < n
  · rw [if_pos h, Nat.mod_eq_of_lt h]
  · rw [if_neg h, Nat.mod_eq_sub_mod (by omega), Nat.mod_eq_of_lt (by omega)]
def runOf (n f m : Nat) : List Nat := (List.range m).map fun k => (f + k) % n
theorem runOf_nodup {n f m : Nat} (hf : f < n) (hm : m ≤ n) : (runOf n f m).Nodup := by
  unfold runOf
  unfold List.Nodup
  rw [List.pairwise_map]
  refine List.Pairwise.imp_of_mem (fun {x y} hx hy h => ?_) (List.pairwise_lt_range (n := m))
  have hx2 := List.mem_range.mp hx
  have hy2 := List.mem_range.mp hy
  rw [mod_two hf (by omega), mod_two hf (by omega)]
  split <;> split <;> omega
theorem isort_len (l : List Nat) : (isort l).length = l.length := (isort_perm l).length_eq
theorem runOf_set {n f m : Nat} (hf : f < n) (hm : m ≤ n) : IsSet n (isort (runOf n f m)) := by
  refine ⟨fun x hx => ?_, isort_strict (runOf_nodup hf hm)⟩
  have h1 := (isort_perm _).mem_iff.mp hx
  unfold runOf at h1
  obtain ⟨k, _, rfl⟩ := List.mem_map.mp h1
  exact Nat.mod_lt _ (by omega)
theorem sub_set {n : Nat} {l m : List Nat} (h : l.Sublist m) (s : IsSet n m) : IsSet n l := ⟨fun x hx => s.1 x (h.subset hx), s.2.sublist h⟩
theorem range_set (n : Nat) : IsSet n (List.range n) := ⟨fun _ h => List.mem_range.mp h, List.pairwise_lt_range⟩
def startOf (n : Nat) (wl : List Nat) : Nat := ((List.range n).filter fun p => !mem p wl).headD 0
def ranksOf (n : Nat) (wl d : List Nat) : List Nat := isort (d.map fun p => (p + n - startOf n wl) % n)
theorem start_get {n : Nat} {wl : List Nat} (h : wl.length < n) : ((List.range n).filter fun p => !mem p wl)[0]? = some (startOf n wl) ∧ startOf n wl < n := by
  obtain ⟨j, hj, hj2⟩ := L2.st_missing wl n h
  have hm : j ∈ (List.range n).filter fun p => !mem p wl := List.mem_filter.mpr ⟨List.mem_range.mpr hj, by rw [mem_false.mpr hj2]; rfl⟩
  have hx : ∀ x ∈ (List.range n).filter fun p => !mem p wl, x < n := fun x h => List.mem_range.mp (List.mem_filter.mp h).1
  unfold startOf
  generalize ((List.range n).filter fun p => !mem p wl) = L at *
  cases L with
  | nil => cases hm
  | cons x r => exact ⟨rfl, hx x List.mem_cons_self⟩
theorem range_get {n i : Nat} (h : i < n) : (List.range n)[i]? = some i := by rw [List.getElem?_range h]
section
variable {P : Program} {w : World} {K : PySem.W.Frag} {mg : Str → Option Value} {base : Heap}
/-! ### _law_pick -/
def spPick (K : PySem.W.Frag) : Sp := fun vs H Q _ => ∃ (R a : Addr) (ns : List Int) (t : Addr) (xs : List V), vs = [.ref R, .ref t] ∧ RowOk K H R a ns ∧ H t = some (.tup xs) ∧ 1 ≤ xs.length ∧ xs.length ≤ 64 ∧
  ∀ H' (i : Nat) (x : V), KpR R H H' → RowOk K H' R a ns → xs[i]? = some x → Q x H'
theorem ok_pick (Y : Ax K mg base) : FnOk P w K mg base CX0 2 Y.pick.f Y.pick.fd p_Lpick (spPick K) := by
  refine Y.pick.F.ok sc_Lpick (fun vs H Q E h => ?_) (fun A outer s H vs Q E hr h => ?_)
  · obtain ⟨R, a, ns, t, xs, rfl, _⟩ := h
    rfl
  · obtain ⟨R, a, ns, t, xs, rfl, hR, ht, h1, h64, q⟩ := h
    refine ⟨_, pss_one (ps_ret (pe_ix ix_tup (pv 1) (pe_call (ok_taken Y.taken Y.B) (hr.mono (by decide)) rfl Y.taken.g Y.taken.F.kp Y.taken.b .nil pass0 (pa_cons (pv 0) (pa_cons (pe_callB call_len_seq (by rfl) Y.B.len PySem.boot_len (pa_cons (pv 1) pa_nil)) pa_nil))) (fun _ _ => rfl))), ?_⟩
    refine ⟨.ref t, rfl, .ref R, rfl, .ref t, rfl, t, xs, rfl, .inr (SqT.of ht), R, a, ns, (xs.length : Int), rfl, by omega, by omega, hR, fun H' v k x lt => ?_⟩
    have hv : v < xs.length := by omega
    refine ⟨t, xs, (v : Int), xs[v], rfl, rfl, SqT.of (k.tupO hR ht), atI_nat (List.getElem?_eq_getElem hv), ?_⟩
    exact q H' v xs[v] k x (List.getElem?_eq_getElem hv)
/-! ### _law_set -/
def spLset (K : PySem.W.Frag) : Sp := fun vs H Q _ => ∃ (R a : Addr) (ns : List Int) (n : Nat), vs = [.ref R, .int (n : Int)] ∧ RowOk K H R a ns ∧ 2 ≤ n ∧ n ≤ 9 ∧
  ∀ H' p l, KpR R H H' → RowOk K H' R a ns → H' p = some (.tup (nV l)) → IsSet n l → l.length ≤ n → Q (.ref p) H'
theorem ok_Lset (Y : Ax K mg base) : FnOk P w K mg base CX0 2 Y.Lset.f Y.Lset.fd p_Lset (spLset K) := by
  refine Y.Lset.F.ok sc_Lset (fun vs H Q E h => ?_) (fun A outer s H vs Q E hr h => ?_)
  · obtain ⟨R, a, ns, n, rfl, _⟩ := h
    rfl
  · obtain ⟨R, a, ns, n, rfl, hR, n2, n9, q⟩ := h
    have nd := sc_Lset.nd
    have tk := ok_taken (P := P) (w := w) (base := base) Y.taken Y.B
    refine ⟨_, pss_cons (ps_set (i := 2) nd rfl (.inr rfl) (pe_call tk (hr.mono (by decide)) rfl Y.taken.g Y.taken.F.kp Y.taken.b .nil pass0 (pa_cons (pv 0) (pa_cons pe_int pa_nil))))
      (pss_cons (ps_if (pt_cmpR op_eq (pv 2) pe_int (nomark _))
        (pss_cons (ps_asg (pe_tup (pa_cons (pe_call tk (hr.mono (by decide)) rfl Y.taken.g Y.taken.F.kp Y.taken.b .nil pass0 (pa_cons (pv 0) (pa_cons (pv 1) pa_nil))) (pa_cons (pe_call tk (hr.mono (by decide)) rfl Y.taken.g Y.taken.F.kp Y.taken.b .nil pass0 (pa_cons (pv 0) (pa_cons (pv 1) pa_nil))) pa_nil)))
            (pg_tup rfl (pgs_cons (pg_name (i := 3) nd rfl (.inr rfl) (.inl rfl)) (pgs_cons (pg_name (i := 4) nd rfl (.inl rfl) (.inr rfl)) pgs_nil))))
        (pss_one (ps_ret (pe_callTy call_tupleL (by rfl) Y.B.tuple (by decide +kernel) (pa_cons (pe_callB cr_sortedI (by rfl) Y.B.sorted (by decide +kernel) (pa_cons (pe_lc (own := [("_law_k", 5)]) (g := gName 5) rfl nd (pi_range1 (by rfl) Y.B.range (pa_cons (pv 4) pa_nil)) (blkOk_by (N := n_Lset) (sc := defScope s_Lset) (by decide +kernel))
          (fun _ _ _ _ _ => pg_name (i := 5) nd rfl (.inl rfl) (.inr rfl)) (fun _ _ _ _ _ => pts_nil) (fun _ _ _ _ _ => pe_op op_mod (pe_op op_add (pv 3) (pv 5)) (pv 1))) pa_nil)) pa_nil))))) pss_nil)
      (pss_one (ps_ret (pe_callTy call_tupleL (by rfl) Y.B.tuple (by decide +kernel) (pa_cons (pe_lc (own := [("_law_place", 6)]) (g := gName 6) (tt := tTest (tOp (rI0 fun i j => .bl (decide (i < j))) (tCall (spTaken K) [] E (tCons (tVar 0) (tCons (tC (.int 3)) tNil))) (tVar 2))) (te := tVar 6) rfl nd (pi_range1 (by rfl) Y.B.range (pa_cons (pv 1) pa_nil)) (blkOk_by (N := n_Lset) (sc := defScope s_Lset) (by decide +kernel))
          (fun _ _ _ _ _ => pg_name (i := 6) nd rfl (.inl rfl) (.inr rfl)) (fun _ _ _ _ _ => pts_one (pt_cmpR op_lt (pe_call tk (hr.mono (by decide)) rfl Y.taken.g Y.taken.F.kp Y.taken.b .nil pass0 (pa_cons (pv 0) (pa_cons pe_int pa_nil))) (pv 2) (nomark _))) (fun _ _ _ _ _ => pv 6)) pa_nil))))), ?_⟩
    refine ⟨.ref R, rfl, R, a, ns, 4, rfl, by decide, by decide, hR, fun H1 way k1 x1 lw => ?_⟩
    refine ⟨.int (way : Int), rfl, rfl, _, rfl, ?_⟩
    by_cases h0 : V.int (way : Int) = V.int 0
    · rw [decide_eq_true h0]
      refine iteT ⟨.ref R, rfl, .int (n : Int), rfl, R, a, ns, (n : Int), rfl, by omega, by omega, x1, fun H2 f k2 x2 lf => ?_⟩
      refine ⟨.ref R, rfl, .int (n : Int), rfl, R, a, ns, (n : Int), rfl, by omega, by omega, x2, fun H3 m k3 x3 lm => ?_⟩
      refine ⟨(by decide : 2 ≤ sizeLine), fun t nt => ?_⟩
      have k4 : Kp H3 (upd H3 t (.tup [.int (f : Int), .int (m : Int)])) := Kp.new nt
      refine ⟨t, _, rfl, SqT.of upd_same, rfl, _, _, rfl, _, _, rfl, rfl, ?_⟩
      refine ⟨.int (m : Int), rfl, (m : Int), rfl, by omega, by omega, fun D nD => ?_⟩
      have hf : f < n := by omega
      have hl : (runOf n f m).length = m := by
        unfold runOf
        rw [List.length_map, List.length_range]
      refine lc_acc (walk_range (lo := 0) (n := (m : Int).toNat)) (fun i => nV ((runOf n f m).take i)) rfl (fun i hi => by rw [nV_len, List.length_take]; exact small1000 (by omega)) nD (fun _ _ => trivial) (fun i x H5 H6 hi k5 y C C' hC _ => ?_) fun H5 k5 e5 => ?_
      · obtain ⟨rfl, rfl⟩ := y
        have hi2 : i < m := by omega
        refine ⟨rfl, .int (f : Int), rfl, .int ((0 : Int) + ((i : Nat) : Int)), rfl, (f : Int), (0 : Int) + ((i : Nat) : Int), rfl, rfl, .int (n : Int), rfl, _, (n : Int), rfl, rfl, (by show (0 : Int) < (n : Int); omega), ?_⟩
        have e9 : ((f : Int) + ((0 : Int) + ((i : Nat) : Int))) % (n : Int) = (((f + i) % n : Nat) : Int) := by rw [show (f : Int) + ((0 : Int) + ((i : Nat) : Int)) = ((f + i : Nat) : Int) by omega, emod_nat]
        show C (.int (((f : Int) + ((0 : Int) + ((i : Nat) : Int))) % (n : Int))) H6
        rw [e9]
        refine hC _ _ (Kp.refl _) (nV_take ?_)
        unfold runOf
        rw [List.getElem?_map, List.getElem?_range hi2]
        rfl
      · rw [show (m : Int).toNat = (runOf n f m).length by omega, List.take_length] at e5
        refine ⟨D, (runOf n f m).map fun n : Nat => (n : Int), rfl, SqL.of (by rw [← nV_eq]; exact e5), fun ns' p pm srt np => ?_⟩
        have k6 : Kp H5 (upd H5 p (.lst (ns'.map V.int))) := Kp.new np
        refine ⟨p, _, rfl, upd_same, fun l nl => ?_⟩
        have k47 := (k4.trans k5).trans (k6.trans (Kp.new (o := .tup (ns'.map V.int)) nl))
        refine q _ l (isort (runOf n f m)) (((k1.trans k2).trans k3).trans (.of k47)) (x3.kp k47) ?_ (runOf_set hf (by omega)) (by rw [isort_len, hl]; omega)
        rw [upd_same, sortedI_nat pm srt, ← nV_eq]
    · rw [decide_eq_false h0]
      refine iteF ⟨.int (n : Int), rfl, (n : Int), rfl, by omega, by omega, fun D nD => ?_⟩
      refine lc_row (walk_range (lo := 0) (n := (n : Int).toNat)) (fun i xs => ∃ l : List Nat, xs = nV l ∧ l.Sublist (List.range i)) nD x1 (fun _ _ => trivial) ⟨[], rfl, .slnil⟩ (fun i x H2 H3 xs hi k2 x2 hT y C C' hC hC' => ?_) fun H2 xs k2 x2 e hT => ?_
      · obtain ⟨rfl, rfl⟩ := y
        obtain ⟨l, rfl, sl⟩ := hT
        have hll := sl.length_le
        rw [List.length_range] at hll
        refine ⟨rfl, .ref R, rfl, R, a, ns, 3, rfl, by decide, by decide, x2, fun H4 v k4 x4 lv => ?_⟩
        refine ⟨.int (way : Int), rfl, (v : Int), (way : Int), rfl, rfl, _, rfl, ?_⟩
        cases hb : decide ((v : Int) < (way : Int)) with
        | true =>
          refine iteT ⟨_, rfl, hC _ H4 k4 x4 (by rw [nV_len]; exact small1000 (by omega)) ⟨l ++ [i], ?_, ?_⟩⟩
          · show nV l ++ [V.int ((0 : Int) + ((i : Nat) : Int))] = _
            rw [nV_snoc, Int.zero_add]
          · rw [List.range_succ]
            exact sl.append (List.Sublist.refl _)
        | false =>
          refine iteF (hC' H4 k4 x4 ⟨l, rfl, ?_⟩)
          rw [List.range_succ]
          exact sl.trans (List.sublist_append_left _ _)
      · obtain ⟨l, rfl, sl⟩ := hT
        rw [Int.toNat_natCast] at sl
        refine ⟨D, _, rfl, e, fun p np => ?_⟩
        have hll := sl.length_le
        rw [List.length_range] at hll
        exact q _ p l ((k1.trans k2).trans (.of (Kp.new np))) (x2.kp (Kp.new np)) upd_same (sub_set sl (range_set n)) hll
/-! ### _law_whole -/
def spLwhole (K : PySem.W.Frag) : Sp := fun vs H Q _ => ∃ (R a : Addr) (ns : List Int) (n : Nat), vs = [.ref R, .int (n : Int)] ∧ RowOk K H R a ns ∧ 2 ≤ n ∧ n ≤ 9 ∧
  ∀ H' p l, KpR R H H' → RowOk K H' R a ns → H' p = some (.tup (nV l)) → IsSet n l → l.length < n → Q (.ref p) H'
theorem cut_last {l : List Nat} {n : Nat} (h : l.length = n) (h2 : 2 ≤ n) : cutV (nV l) none (some (-1)) = nV (l.take (n - 1)) := by
  unfold cutV
  have e : HT.sIx (nV l).length (nV l).length (some (-1)) = n - 1 := by
    show (if (-1 : Int) < 0 then ((-1 : Int) + ((nV l).length : Int)).toNat else min (-1 : Int).toNat (nV l).length) = n - 1
    rw [if_pos (by decide), nV_len]
    omega
  rw [HT.sIx_none, e, List.drop_zero, Nat.sub_zero]
  unfold nV
  rw [List.map_take]
theorem ok_Lwhole (Y : Ax K mg base) : FnOk P w K mg base CX0 3 Y.Lwhole.f Y.Lwhole.fd p_Lwhole (spLwhole K) := by
  refine Y.Lwhole.F.ok sc_Lwhole (fun vs H Q E h => ?_) (fun A outer s H vs Q E hr h => ?_)
  · obtain ⟨R, a, ns, n, rfl, _⟩ := h
    rfl
  · obtain ⟨R, a, ns, n, rfl, hR, n2, n9, q⟩ := h
    have nd := sc_Lwhole.nd
    refine ⟨_, pss_cons (ps_set (i := 2) nd rfl (.inl rfl) (pe_call (ok_Lset Y) (hr.mono (by decide)) rfl Y.Lset.g Y.Lset.F.kp Y.Lset.b .nil pass0 (pa_cons (pv 0) (pa_cons (pv 1) pa_nil))))
      (pss_one (ps_ret (pe_ifExp (pt_cmpR op_lt (pe_callB call_len_seq (by rfl) Y.B.len PySem.boot_len (pa_cons (pv 2) pa_nil)) (pv 1) (nomark _)) (pv 2) (pe_slice sl_tupA (pv 2) po_none (po_some (pe_un un_neg pe_int)))))), ?_⟩
    refine ⟨.ref R, rfl, .int (n : Int), rfl, R, a, ns, n, rfl, hR, n2, n9, fun H1 p l k1 x1 e st hl => ?_⟩
    refine ⟨.ref p, rfl, p, _, rfl, .inr (SqT.of e), .int (n : Int), rfl, _, (n : Int), rfl, rfl, _, rfl, ?_⟩
    rw [nV_len]
    by_cases hlt : (l.length : Int) < (n : Int)
    · rw [decide_eq_true hlt]
      exact iteT ⟨.ref p, rfl, q H1 p l k1 x1 e st (by omega)⟩
    · rw [decide_eq_false hlt]
      have hn : l.length = n := by omega
      refine iteF ⟨.ref p, rfl, (1 : Int), rfl, (-1 : Int), rfl, ?_⟩
      refine ⟨p, nV l, rfl, SqT.of e, fun ⟨_, z⟩ => ?_, fun _ t nt => ?_⟩
      · exfalso
        have e2 : HT.sIx (nV l).length (nV l).length (some (-1)) = n - 1 := by
          show (if (-1 : Int) < 0 then ((-1 : Int) + ((nV l).length : Int)).toNat else min (-1 : Int).toNat (nV l).length) = n - 1
          rw [if_pos (by decide), nV_len]
          omega
        rw [e2, nV_len] at z
        omega
      · rw [cut_last hn n2]
        refine q _ t (l.take (n - 1)) (k1.trans (.of (Kp.new nt))) (x1.kp (Kp.new nt)) upd_same (sub_set (List.take_sublist _ _) st) ?_
        rw [List.length_take]
        omega
/-! ### _law_within -/
def spWithin (K : PySem.W.Frag) : Sp := fun vs H Q _ => ∃ (R a : Addr) (ns : List Int) (b : Addr) (wl : List Nat), vs = [.ref R, .ref b] ∧ RowOk K H R a ns ∧ H b = some (.tup (nV wl)) ∧ wl.length ≤ 9 ∧
  ∀ H' p l, KpR R H H' → RowOk K H' R a ns → H' p = some (.tup (nV l)) → l.Sublist wl → Q (.ref p) H'
theorem ok_within (Y : Ax K mg base) : FnOk P w K mg base CX0 2 Y.within.f Y.within.fd p_Lwithin (spWithin K) := by
  refine Y.within.F.ok sc_Lwithin (fun vs H Q E h => ?_) (fun A outer s H vs Q E hr h => ?_)
  · obtain ⟨R, a, ns, b, wl, rfl, _⟩ := h
    rfl
  · obtain ⟨R, a, ns, b, wl, rfl, hR, hb, h9, q⟩ := h
    have nd := sc_Lwithin.nd
    have tk := ok_taken (P := P) (w := w) (base := base) Y.taken Y.B
    refine ⟨_, pss_one (ps_ret (pe_callTy call_tupleL (by rfl) Y.B.tuple (by decide +kernel) (pa_cons (pe_lc (own := [("_law_place", 2)]) (g := gName 2) (tt := tTest (tOp rEq (tCall (spTaken K) [] E (tCons (tVar 0) (tCons (tC (.int 2)) tNil))) (tC (.int 0)))) (te := tVar 2) rfl nd (pi_tup (pv 1)) (blkOk_by (N := n_Lwithin) (sc := defScope s_Lwithin) (by decide +kernel))
          (fun _ _ _ _ _ => pg_name (i := 2) nd rfl (.inl rfl) (.inr rfl)) (fun _ _ _ _ _ => pts_one (pt_cmpR op_eq (pe_call tk (hr.mono (by decide)) rfl Y.taken.g Y.taken.F.kp Y.taken.b .nil pass0 (pa_cons (pv 0) (pa_cons pe_int pa_nil))) pe_int (nomark _))) (fun _ _ _ _ _ => pv 2)) pa_nil))), ?_⟩
    refine ⟨.ref b, rfl, b, rfl, ⟨_, SqT.of hb⟩, fun D nD => ?_⟩
    refine lc_row (walk_tup (xs := nV wl)) (fun i xs => ∃ l : List Nat, xs = nV l ∧ l.Sublist (wl.take i)) nD hR (fun H1 k1 => SqT.of (k1.tupO hR hb)) ⟨[], rfl, List.nil_sublist _⟩ (fun i x H2 H3 xs hi k2 x2 hT y C C' hC hC' => ?_) fun H2 xs k2 x2 e hT => ?_
    · obtain ⟨rfl, gx⟩ := y
      rw [nV_len] at hi
      have g : wl[i]? = some wl[i] := List.getElem?_eq_getElem hi
      have gx2 := (nV_get g).symm.trans gx
      cases gx2
      obtain ⟨l, rfl, sl⟩ := hT
      have hll := sl.length_le
      rw [List.length_take] at hll
      have et : wl.take (i + 1) = wl.take i ++ [wl[i]] := by rw [List.take_add_one, g]; rfl
      refine ⟨rfl, .ref R, rfl, R, a, ns, 2, rfl, by decide, by decide, x2, fun H4 v k4 x4 lv => ?_⟩
      refine ⟨rfl, _, rfl, ?_⟩
      cases hb : decide (V.int (v : Int) = V.int 0) with
      | true =>
        refine iteT ⟨_, rfl, hC _ H4 k4 x4 (by rw [nV_len]; exact small1000 (by omega)) ⟨l ++ [wl[i]], ?_, ?_⟩⟩
        · rw [nV_snoc]
        · rw [et]
          exact sl.append (List.Sublist.refl _)
      | false =>
        refine iteF (hC' H4 k4 x4 ⟨l, rfl, ?_⟩)
        rw [et]
        exact sl.trans (List.sublist_append_left _ _)
    · obtain ⟨l, rfl, sl⟩ := hT
      rw [nV_len, List.take_length] at sl
      exact ⟨D, _, rfl, e, fun p np => q _ p l (k2.trans (.of (Kp.new np))) (x2.kp (Kp.new np)) upd_same sl⟩
/-! ### _law_ranks -/
def spRanks : Sp := fun vs H Q _ => ∃ (n : Nat) (b c : Addr) (wl d : List Nat), vs = [.int (n : Int), .ref b, .ref c] ∧ n ≤ 9 ∧ H b = some (.tup (nV wl)) ∧ wl.length < n ∧ H c = some (.tup (nV d)) ∧ d.length ≤ 1000 ∧
  ∀ H' p, Kp H H' → H' p = some (.lst (nV (ranksOf n wl d))) → Q (.ref p) H'
theorem ok_ranks (Y : Ax K mg base) : FnOk P w K mg base CX0 1 Y.ranks.f Y.ranks.fd p_Lranks spRanks := by
  refine Y.ranks.F.ok sc_Lranks (fun vs H Q E h => ?_) (fun A outer s H vs Q E hr h => ?_)
  · obtain ⟨n, b, c, wl, d, rfl, _⟩ := h
    rfl
  · obtain ⟨n, b, c, wl, d, rfl, n9, hb, hl, hc, hd, q⟩ := h
    have nd := sc_Lranks.nd
    refine ⟨_, pss_cons (ps_set (i := 3) nd rfl (.inr rfl) (pe_ix ix_list (pe_lc (own := [("_law_place", 4)]) (g := gName 4) (tt := tTest (tOp (rIn K true) (tVar 4) (tVar 1))) (te := tVar 4) rfl nd (pi_range1 (by rfl) Y.B.range (pa_cons (pv 0) pa_nil)) (blkOk_by (N := n_Lranks) (sc := defScope s_Lranks) (by decide +kernel))
          (fun _ _ _ _ _ => pg_name (i := 4) nd rfl (.inl rfl) (.inr rfl)) (fun _ _ _ _ _ => pts_one (pt_cmpR op_notIn_seq (pv 4) (pv 1) rfl)) (fun _ _ _ _ _ => pv 4)) pe_int (fun _ _ => rfl)))
      (pss_one (ps_ret (pe_callB cr_sortedI (by rfl) Y.B.sorted (by decide +kernel) (pa_cons (pe_lc (own := [("_law_place", 4)]) (g := gName 4) rfl nd (pi_tup (pv 2)) (blkOk_by (N := n_Lranks) (sc := defScope s_Lranks) (by decide +kernel))
          (fun _ _ _ _ _ => pg_name (i := 4) nd rfl (.inl rfl) (.inr rfl)) (fun _ _ _ _ _ => pts_nil) (fun _ _ _ _ _ => pe_op op_mod (pe_op op_sub (pv 4) (pv 3)) (pv 0))) pa_nil)))), ?_⟩
    obtain ⟨hst, hsn⟩ := start_get hl
    refine ⟨.int (n : Int), rfl, (n : Int), rfl, by omega, by omega, fun D nD => ?_⟩
    refine lc_acc (walk_range (lo := 0) (n := (n : Int).toNat)) (fun i => nV (((List.range n).take i).filter fun p => !mem p wl)) rfl (fun i hi => ?_) nD (fun _ _ => trivial) (fun i x H2 H3 hi k2 y C C' hC hC' => ?_) fun H2 k2 e => ?_
    · rw [nV_len]
      exact small1000 (Nat.le_trans (List.length_filter_le _ _) (by rw [List.length_take]; omega))
    · obtain ⟨rfl, rfl⟩ := y
      have hi2 : i < n := by omega
      have ft := filter_take (fun p => !mem p wl) (range_get hi2)
      refine ⟨rfl, .int ((0 : Int) + ((i : Nat) : Int)), rfl, .ref b, rfl, b, nV wl, rfl, .inr (SqT.of (k2.tup hb)), rfl, nV_flat wl, _, rfl, ?_⟩
      show (if (if true = true then !inV (.int ((0 : Int) + ((i : Nat) : Int))) (nV wl) else inV (.int ((0 : Int) + ((i : Nat) : Int))) (nV wl)) = true then _ else _)
      rw [if_pos rfl, Int.zero_add, inV_nV]
      cases hm : mem i wl with
      | true =>
        refine iteF (hC' H3 (Kp.refl _) ?_)
        rw [ft, hm]
        simp
      | false =>
        refine iteT ⟨_, rfl, hC _ H3 (Kp.refl _) ?_⟩
        show _ = _ ++ [V.int ((0 : Int) + ((i : Nat) : Int))]
        rw [ft, hm, Int.zero_add]
        simp [nV]
    · have hall : (List.range n).take (n : Int).toNat = List.range n := by rw [Int.toNat_natCast, List.take_of_length_le (by rw [List.length_range]; exact Nat.le_refl _)]
      rw [hall] at e
      refine ⟨D, _, (0 : Int), .int (startOf n wl : Int), rfl, rfl, SqL.of e, atI_nat (j := 0) (nV_get hst), ?_⟩
      refine ⟨.ref c, rfl, c, rfl, ⟨_, SqT.of (k2.tup hc)⟩, fun E nE => ?_⟩
      refine lc_acc (walk_tup (xs := nV d)) (fun i => nV ((d.map fun p => (p + n - startOf n wl) % n).take i)) rfl (fun i hi => by rw [nV_len] at hi; rw [nV_len, List.length_take, List.length_map]; exact small1000 (by omega)) nE (fun H3 k3 => SqT.of (k3.tup (k2.tup hc))) (fun i x H3 H4 hi k3 y C C' hC _ => ?_) fun H3 k3 e3 => ?_
      · obtain ⟨rfl, gx⟩ := y
        rw [nV_len] at hi
        have g : d[i]? = some d[i] := List.getElem?_eq_getElem hi
        have gx2 := (nV_get g).symm.trans gx
        cases gx2
        refine ⟨rfl, .int (d[i] : Int), rfl, .int (startOf n wl : Int), rfl, _, _, rfl, rfl, .int (n : Int), rfl, _, (n : Int), rfl, rfl, (by show (0 : Int) < (n : Int); omega), ?_⟩
        show C (.int (((d[i] : Int) - (startOf n wl : Int)) % (n : Int))) H4
        rw [sub_mod_nat hsn]
        refine hC _ _ (Kp.refl _) (nV_take ?_)
        rw [List.getElem?_map, g]
        rfl
      · rw [nV_len, ← List.length_map (fun p => (p + n - startOf n wl) % n), List.take_length] at e3
        refine ⟨E, (d.map fun p => (p + n - startOf n wl) % n).map fun n : Nat => (n : Int), rfl, SqL.of (by rw [← nV_eq]; exact e3), fun ns' p pm srt np => ?_⟩
        refine q _ p ((k2.trans k3).trans (Kp.new np)) ?_
        rw [upd_same, sortedI_nat pm srt, ← nV_eq]
        rfl
end
end K91
namespace K91
open PySem PySem.Spec PyProof.Rows L2
open GxR (TabB TabG Tabbed inv_tab sh_eta GenS keeps_refl keeps_tok)
/-! ### the finite check: sizes 2 to 8, every whole, every one within it -/
def wsum (n : Nat) : List Nat → List Nat → Nat
  | _, [] => 0
  | found, w :: r => (nextF n found n w + n - w) % n + wsum n (nextF n found n w :: found) r
theorem wsum_go (n : Nat) : ∀ (ls found : List Nat), (((spotsGo n found ls).zip ls).map fun p => (p.1 + n - p.2) % n).sum = wsum n found ls
  | [], _ => rfl
  | w :: r, found => by
    show (nextF n found n w + n - w) % n + (((spotsGo n (nextF n found n w :: found) r).zip r).map fun p => (p.1 + n - p.2) % n).sum = _
    rw [wsum_go n r]
    rfl
theorem wsum_eq (n : Nat) (ls : List Nat) : (walks n ls).sum = wsum n [] ls := wsum_go n ls []
def rsum (n st : Nat) : List Nat → Nat
  | [] => 0
  | p :: r => (p + n - st) % n + rsum n st r
theorem rsum_map (n st : Nat) : ∀ d : List Nat, (d.map fun p => (p + n - st) % n).sum = rsum n st d
  | [] => rfl
  | p :: r => by
    rw [List.map_cons, List.sum_cons, rsum_map n st r]
    rfl
theorem rsum_eq (n : Nat) (wl d : List Nat) : (ranksOf n wl d).sum = rsum n (startOf n wl) d := by
  unfold ranksOf
  rw [(isort_perm _).sum_nat, rsum_map]
/-- as many as are told, each product at most 63 -/
def fits (ol : List Nat) : List (List Nat) → Nat → Bool
  | [], _ => true
  | ps :: r, acc => match Nat.ble (acc * (rrows (gaps ps ol)).length) 63 with
    | true => fits ol r (acc * (rrows (gaps ps ol)).length)
    | false => false
theorem fits_ok (ol : List Nat) : ∀ (l found : List (List Nat)), found.length ≤ 63 → fits ol l found.length = true → ∀ i, (allGo ol (l.take i) found).length ≤ 63
  | [], found, h, _, i => by
    rw [List.take_nil]
    exact h
  | ps :: r, found, h, hf, i => by
    unfold fits at hf
    cases e : Nat.ble (found.length * (rrows (gaps ps ol)).length) 63 with
    | false =>
      rw [e] at hf
      cases hf
    | true =>
      rw [e] at hf
      cases i with
      | zero => exact h
      | succ i =>
        have hl := addAll_len ps found (rrows (gaps ps ol))
        refine fits_ok ol r ((rrows (gaps ps ol)).flatMap (add1 ps found)) (by rw [hl]; exact Nat.le_of_ble_eq_true e) (by rw [hl]; exact hf) i
def below (n : Nat) : List Nat → Bool
  | [] => true
  | x :: r => match Nat.ble n x with
    | true => false
    | false => below n r
theorem below_ok {n : Nat} : ∀ {l : List Nat}, below n l = true → ∀ x ∈ l, x < n
  | [], _, x, h => by cases h
  | y :: r, hb, x, h => by
    unfold below at hb
    cases e : Nat.ble n y with
    | true =>
      rw [e] at hb
      cases hb
    | false =>
      rw [e] at hb
      rcases List.mem_cons.mp h with q | q
      · rw [q]
        exact Nat.lt_of_not_le fun c => by rw [Nat.ble_eq_true_of_le c] at e; cases e
      · exact below_ok hb x q
/-- each d of its length, below n, its walk by ranks -/
def eachD (n k st lowR : Nat) (ol : List Nat) : List (List Nat) → Bool
  | [] => true
  | d :: r => match Nat.beq d.length k with
    | true => match below n d with
      | true => match Nat.beq (wsum n [] (ol ++ d) + rsum n st d) lowR with
        | true => eachD n k st lowR ol r
        | false => false
      | false => false
    | false => false
theorem eachD_ok {n k st lowR : Nat} {ol : List Nat} : ∀ {D : List (List Nat)}, eachD n k st lowR ol D = true → ∀ d ∈ D, d.length = k ∧ (∀ x ∈ d, x < n) ∧ wsum n [] (ol ++ d) + rsum n st d = lowR
  | [], _, d, h => by cases h
  | y :: r, hb, d, h => by
    unfold eachD at hb
    cases e1 : Nat.beq y.length k with
    | false =>
      rw [e1] at hb
      cases hb
    | true =>
      cases e2 : below n y with
      | false =>
        rw [e1, e2] at hb
        cases hb
      | true =>
        cases e3 : Nat.beq (wsum n [] (ol ++ y) + rsum n st y) lowR with
        | false =>
          rw [e1, e2, e3] at hb
          cases hb
        | true =>
          rw [e1, e2, e3] at hb
          rcases List.mem_cons.mp h with q | q
          · rw [q]
            exact ⟨Nat.eq_of_beq_eq_true e1, below_ok e2, Nat.eq_of_beq_eq_true e3⟩
          · exact eachD_ok hb d q
def upTo (m : Nat) (S : List Nat) : Bool := (List.range m).all fun w => mem w S
def len7 : List (List Nat) → Bool
  | [] => true
  | ps :: r => match Nat.ble ps.length 7 with
    | true => len7 r
    | false => false
theorem len7_ok : ∀ {l : List (List Nat)}, len7 l = true → ∀ ps ∈ l, ps.length ≤ 7
  | [], _, d, h => by cases h
  | y :: r, hb, d, h => by
    unfold len7 at hb
    cases e1 : Nat.ble y.length 7 with
    | false =>
      rw [e1] at hb
      cases hb
    | true =>
      rw [e1] at hb
      rcases List.mem_cons.mp h with q | q
      · rw [q]
        exact Nat.le_of_ble_eq_true e1
      · exact len7_ok hb d q
def wsums (n : Nat) (ol : List Nat) : List (List Nat) → List Nat
  | [] => []
  | d :: r => wsum n [] (ol ++ d) :: wsums n ol r
theorem wsums_eq (n : Nat) (ol : List Nat) : ∀ D : List (List Nat), (D.map fun d => (walks n (ol ++ d)).sum) = wsums n ol D
  | [] => rfl
  | d :: r => by
    rw [List.map_cons, wsums_eq n ol r, wsum_eq]
    rfl
def goodS (n k m : Nat) (S fd ol : List Nat) : Bool :=
  Nat.beq (cnt 0 S) 1 && Nat.beq (cnt m S) 1 && upTo (m + 1) S && below n fd && Nat.beq fd.length k && Nat.beq (wsum n [] (ol ++ fd)) m
def good (n : Nat) (wl : List Nat) (bp : List (List Nat)) (st : Nat) (ol : List Nat) : Bool :=
  fits ol bp 1 && eachD n (wl.length - ol.length) st (rsum n st (lastD wl ol)) ol ((allGo ol bp [[]]).map isort) &&
  (match wl.length - ol.length with | 0 => Nat.beq (allGo ol bp [[]]).length 1 | _ + 1 => true) && Nat.beq (wsum n [] (ol ++ lastD wl ol)) 0 &&
  goodS n (wl.length - ol.length) (maxN (wsums n ol ((allGo ol bp [[]]).map isort))) (wsums n ol ((allGo ol bp [[]]).map isort)) (isort (bp.flatMap fun ps => ps.take (gaps ps ol).length)) ol
def isOne : List Nat → Bool
  | [x] => Nat.beq x 1
  | _ => false
def subs : List Nat → List (List Nat)
  | [] => [[]]
  | x :: r => subs r ++ (subs r).map (x :: ·)
theorem mem_subs : ∀ {l m : List Nat}, l.Sublist m → l ∈ subs m
  | _, _, .slnil => List.mem_singleton.mpr rfl
  | _, _, .cons a h => List.mem_append_left _ (mem_subs h)
  | _, _, .cons_cons a h => List.mem_append_right _ (List.mem_map.mpr ⟨_, mem_subs h, rfl⟩)
def chkW (n : Nat) (wl : List Nat) : Bool := match Nat.ble n wl.length with
  | true => true
  | false => len7 (bplaces n wl) && isOne (countsOf (wsums n [] (allD n wl []))) && (subs wl).all fun ol => good n wl (bplaces n wl) (startOf n wl) ol
def chk (n : Nat) : Bool := (subs (List.range n)).all fun wl => chkW n wl
theorem chk2 : chk 2 = true := by decide +kernel
theorem chk3 : chk 3 = true := by decide +kernel
theorem chk4 : chk 4 = true := by decide +kernel
theorem chk5 : chk 5 = true := by decide +kernel
end K91
namespace K91
open PySem PySem.Spec PyProof.Rows L2
open GxR (TabB TabG Tabbed inv_tab sh_eta GenS keeps_refl keeps_tok)
/-! ### size 8, in eight parts -/
def part8 (k : Nat) : Bool := (((subs (List.range 8)).drop (32 * k)).take 32).all fun wl => chkW 8 wl
theorem p80 : part8 0 = true := by decide +kernel
theorem p81 : part8 1 = true := by decide +kernel
theorem p82 : part8 2 = true := by decide +kernel
theorem p83 : part8 3 = true := by decide +kernel
theorem p84 : part8 4 = true := by decide +kernel
theorem p85 : part8 5 = true := by decide +kernel
theorem p86 : part8 6 = true := by decide +kernel
theorem p87 : part8 7 = true := by decide +kernel
theorem subs_len : ∀ l : List Nat, (subs l).length = 2 ^ l.length
  | [] => rfl
  | x :: r => by
    show (subs r ++ (subs r).map (x :: ·)).length = _
    rw [List.length_append, List.length_map, subs_len r, List.length_cons, Nat.pow_succ]
    omega
theorem chk8 : chk 8 = true := by
  refine List.all_eq_true.mpr fun wl h => ?_
  obtain ⟨i, hi, e⟩ := List.getElem_of_mem h
  have hl := subs_len (List.range 8)
  rw [List.length_range] at hl
  have key : ∀ k, i / 32 = k → part8 k = true → chkW 8 wl = true := fun k hk hp => by
    refine List.all_eq_true.mp hp wl (List.mem_of_getElem? (i := i % 32) ?_)
    rw [List.getElem?_take_of_lt (Nat.mod_lt _ (by decide)), List.getElem?_drop, ← hk, Nat.div_add_mod, List.getElem?_eq_getElem hi, e]
  have : i / 32 = 0 ∨ i / 32 = 1 ∨ i / 32 = 2 ∨ i / 32 = 3 ∨ i / 32 = 4 ∨ i / 32 = 5 ∨ i / 32 = 6 ∨ i / 32 = 7 := by omega
  rcases this with z | z | z | z | z | z | z | z
  · exact key 0 z p80
  · exact key 1 z p81
  · exact key 2 z p82
  · exact key 3 z p83
  · exact key 4 z p84
  · exact key 5 z p85
  · exact key 6 z p86
  · exact key 7 z p87
theorem chk6 : chk 6 = true := by decide +kernel
theorem chk7 : chk 7 = true := by decide +kernel
end K91
namespace K91
open PySem PySem.Spec PyProof.Rows L2
open GxR (TabB TabG Tabbed inv_tab sh_eta GenS keeps_refl keeps_tok)
/-! ### what the check tells -/
theorem set_sub : ∀ {n : Nat} {l : List Nat}, IsSet n l → l.Sublist (List.range n)
  | 0, l, h => by
    cases l with
    | nil => exact .slnil
    | cons x r => exact absurd (h.1 x List.mem_cons_self) (by omega)
  | n + 1, l, h => by
    rw [List.range_succ]
    rcases List.eq_nil_or_concat l with e | ⟨l', x, e⟩
    · rw [e]
      exact List.nil_sublist _
    · rw [List.concat_eq_append] at e
      subst e
      have hp := List.pairwise_append.mp h.2
      have hx := h.1 x (by simp)
      have hl : ∀ y ∈ l', y < x := fun y hy => hp.2.2 y hy x (by simp)
      by_cases e : x = n
      · subst e
        exact (set_sub ⟨hl, hp.1⟩).append (List.Sublist.refl _)
      · refine (set_sub ⟨fun y hy => ?_, h.2⟩).trans (List.sublist_append_left _ _)
        rcases List.mem_append.mp hy with q | q
        · have := hl y q
          omega
        · rw [List.mem_singleton.mp q]
          omega
theorem lies_of {ol wl : List Nat} (h : ol.Sublist wl) : (ol.all fun x => mem x wl) = true := List.all_eq_true.mpr fun x hx => mem_iff.mpr (h.subset hx)
theorem cnt_pos {w : Nat} {S : List Nat} (h : w ∈ S) : 1 ≤ cnt w S := by
  rw [← cnt_eq]
  exact List.count_pos_iff.mpr h
theorem sumAdd (f g : Nat → Nat) : ∀ m : Nat, ((List.range m).map fun w => f w + g w).sum = ((List.range m).map f).sum + ((List.range m).map g).sum
  | 0 => rfl
  | m + 1 => by
    rw [List.range_succ, List.map_append, List.map_append, List.map_append, List.sum_append, List.sum_append, List.sum_append, sumAdd f g m]
    simp
    omega
theorem sumOne (x : Nat) : ∀ m : Nat, ((List.range m).map fun w => if w = x then 1 else 0).sum = if x < m then 1 else 0
  | 0 => by simp
  | m + 1 => by
    rw [List.range_succ, List.map_append, List.sum_append, sumOne x m]
    simp only [List.map_cons, List.map_nil, List.sum_cons, List.sum_nil]
    split <;> split <;> split <;> omega
theorem cnt_cons (w x : Nat) (r : List Nat) : cnt w (x :: r) = cnt w r + (if w = x then 1 else 0) := by
  show (match Nat.beq w x with | true => cnt w r + 1 | false => cnt w r) = _
  cases e : Nat.beq w x with
  | true => rw [if_pos (Nat.eq_of_beq_eq_true e)]
  | false => rw [if_neg (Nat.ne_of_beq_eq_false e)]; rfl
theorem sumCnt {m : Nat} : ∀ S : List Nat, (∀ x ∈ S, x < m) → ((List.range m).map fun w => cnt w S).sum = S.length
  | [], _ => by
    have : ∀ m : Nat, ((List.range m).map fun w => cnt w []).sum = 0 := fun m => by
      induction m with
      | zero => rfl
      | succ m ih =>
        rw [List.range_succ, List.map_append, List.sum_append, ih]
        rfl
    exact this m
  | x :: r, h => by
    have e : (fun w => cnt w (x :: r)) = fun w => cnt w r + (if w = x then 1 else 0) := funext fun w => cnt_cons w x r
    rw [e, sumAdd, sumCnt r fun y hy => h y (List.mem_cons_of_mem _ hy), sumOne, if_pos (h x List.mem_cons_self)]
    rfl
structure Facts (n : Nat) (wl ol : List Nat) : Prop where
  all : AllOk n wl ol
  ne : sumsD n wl ol ≠ []
  c0 : cnt 0 (sumsD n wl ol) = 1
  cm : cnt (maxN (sumsD n wl ol)) (sumsD n wl ol) = 1
  up : ∀ w, w ≤ maxN (sumsD n wl ol) → w ∈ sumsD n wl ol
  low0 : (walks n (ol ++ lastD wl ol)).sum = 0
  first : (walks n (ol ++ firstD n wl ol)).sum = maxN (sumsD n wl ol)
  firstN : ∀ x ∈ firstD n wl ol, x < n
  firstL : (firstD n wl ol).length = wl.length - ol.length
  each : ∀ d ∈ allD n wl ol, (walks n (ol ++ d)).sum + (ranksOf n wl d).sum = (ranksOf n wl (lastD wl ol)).sum
theorem facts_of {n : Nat} {wl ol : List Nat} (hc : chk n = true) (hw : IsSet n wl) (hl : wl.length < n) (ho : ol.Sublist wl) : Facts n wl ol ∧ countsOf (sumsD n wl []) = [1] := by
  have h1 := List.all_eq_true.mp hc wl (mem_subs (set_sub hw))
  unfold chkW at h1
  cases e : Nat.ble n wl.length with
  | true =>
    have := Nat.le_of_ble_eq_true e
    omega
  | false =>
    rw [e] at h1
    simp only [Bool.and_eq_true] at h1
    obtain ⟨⟨h7, hone⟩, hg⟩ := h1
    have hg := List.all_eq_true.mp hg ol (mem_subs ho)
    unfold good at hg
    simp only [Bool.and_eq_true] at hg
    obtain ⟨⟨⟨⟨hf, he⟩, hz⟩, hlow⟩, hS⟩ := hg
    have eD : (allGo ol (bplaces n wl) [[]]).map isort = allD n wl ol := rfl
    have eF : isort ((bplaces n wl).flatMap fun ps => ps.take (gaps ps ol).length) = firstD n wl ol := rfl
    rw [eD, ← wsums_eq] at hS
    rw [eF] at hS
    rw [eD] at he
    have eS : ((allD n wl ol).map fun d => (walks n (ol ++ d)).sum) = sumsD n wl ol := rfl
    rw [eS] at hS
    unfold goodS at hS
    simp only [Bool.and_eq_true] at hS
    obtain ⟨⟨⟨⟨⟨s1, s2⟩, s3⟩, s4⟩, s5⟩, s6⟩ := hS
    have hE := eachD_ok he
    have c0 := Nat.eq_of_beq_eq_true s1
    refine ⟨⟨⟨len7_ok h7, fits_ok ol (bplaces n wl) [[]] (by decide) hf, fun d hd => ⟨(hE d hd).1, (hE d hd).2.1⟩, ho.length_le, fun h0 => ?_⟩, fun z => ?_, c0, Nat.eq_of_beq_eq_true s2, fun w hw => ?_, ?_, ?_, below_ok s4, Nat.eq_of_beq_eq_true s5, fun d hd => ?_⟩, ?_⟩
    · rw [h0] at hz
      unfold allD
      rw [List.length_map]
      exact Nat.eq_of_beq_eq_true hz
    · rw [z] at c0
      cases c0
    · exact mem_iff.mp (List.all_eq_true.mp s3 w (List.mem_range.mpr (by omega)))
    · rw [wsum_eq]
      exact Nat.eq_of_beq_eq_true hlow
    · rw [wsum_eq]
      exact Nat.eq_of_beq_eq_true s6
    · rw [wsum_eq, rsum_eq, rsum_eq]
      exact (hE d hd).2.2
    · rw [← wsums_eq] at hone
      have : ((allD n wl []).map fun d => (walks n ([] ++ d)).sum) = sumsD n wl [] := rfl
      rw [this] at hone
      generalize countsOf (sumsD n wl []) = C at hone
      match C, hone with
      | [x], h => rw [Nat.eq_of_beq_eq_true h]
/-! ### the counts -/
theorem counts_ne {S : List Nat} (h : S ≠ []) : countsOf S = (List.range (maxN S + 1)).map fun w => cnt w S := by
  cases S with
  | nil => exact absurd rfl h
  | cons x r => rfl
theorem counts_len {S : List Nat} (h : S ≠ []) : (countsOf S).length = maxN S + 1 := by rw [counts_ne h, List.length_map, List.length_range]
theorem counts_get {S : List Nat} (h : S ≠ []) {w : Nat} (hw : w ≤ maxN S) : (countsOf S)[w]? = some (cnt w S) := by
  rw [counts_ne h, List.getElem?_map, List.getElem?_range (by omega)]
  rfl
theorem counts_sum {S : List Nat} (h : S ≠ []) : (countsOf S).sum = S.length := by
  rw [counts_ne h]
  exact sumCnt S fun x hx => Nat.lt_succ_of_le (maxN_ge hx)
theorem counts_no0 {S : List Nat} (h : S ≠ []) (hu : ∀ w, w ≤ maxN S → w ∈ S) : mem 0 (countsOf S) = false := by
  rw [mem_false, counts_ne h]
  intro z
  obtain ⟨w, hw, e⟩ := List.mem_map.mp z
  have := cnt_pos (hu w (Nat.le_of_lt_succ (List.mem_range.mp hw)))
  omega
theorem counts_last {S : List Nat} (h : S ≠ []) (hm : cnt (maxN S) S = 1) : ∃ l, countsOf S = l ++ [1] := by
  refine ⟨(List.range (maxN S)).map fun w => cnt w S, ?_⟩
  rw [counts_ne h, List.range_succ, List.map_append, ← hm]
  rfl
end K91
namespace K91
open PySem PySem.Spec PyProof.Rows L2
open GxR (TabB TabG Tabbed inv_tab sh_eta GenS keeps_refl keeps_tok)
/-! ### rules for the law's tuples -/
section
variable {X : Cx}
theorem op_catN : OpR X (binaryOp .Add) (fun x y H Q => ∃ (a b : Addr) (l m : List Nat), x = .ref a ∧ y = .ref b ∧ H a = some (.tup (nV l)) ∧ H b = some (.tup (nV m)) ∧ l.length + m.length ≤ 1000 ∧ ∀ H' p, Kp H H' → H' p = some (.tup (nV (l ++ m))) → Q (.ref p) H') := by
  intro pins s σ H x y v u Q I rx ry h
  obtain ⟨a, b, l, m, rfl, rfl, ha, hb, hz, q⟩ := h
  refine op_catA pins s σ H _ _ v u Q I rx ry ⟨a, b, nV l, nV m, rfl, rfl, SqT.of ha, SqT.of hb, by rw [nV_len, nV_len]; exact Nat.le_of_lt (small1000 (by omega)), fun e => ?_, fun _ e => ?_, fun _ _ p np => ?_⟩
  · have : l = [] := List.map_eq_nil_iff.mp e
    exact q H b (Kp.refl H) (by rw [this]; exact hb)
  · have : m = [] := List.map_eq_nil_iff.mp e
    exact q H a (Kp.refl H) (by rw [this, List.append_nil]; exact ha)
  · refine q _ p (Kp.new np) ?_
    rw [upd_same]
    unfold nV
    rw [List.map_append]
theorem sl_tupN : SlR X (fun x lo hi H Q => ∃ (a : Addr) (l : List Nat), x = .ref a ∧ lo = none ∧ hi = some 1 ∧ H a = some (.tup (nV l)) ∧ ∀ H' p, Kp H H' → H' p = some (.tup (nV (l.take 1))) → Q (.ref p) H') := by
  intro pins s σ H x v vl vu lo hi sl Q I rx hs pl pu h
  obtain ⟨a, l, rfl, rfl, rfl, ha, q⟩ := h
  have e1 : HT.sIx (nV l).length (nV l).length (some (1 : Int)) = min 1 l.length := by
    have := HT.sIx_nat (nV l).length (nV l).length 1
    rw [nV_len] at this ⊢
    exact this
  refine sl_tupA pins s σ H _ v vl vu _ _ sl Q I rx hs pl pu ⟨a, nV l, rfl, SqT.of ha, fun z => ?_, fun _ p np => ?_⟩
  · have z2 := z.2
    rw [e1, nV_len] at z2
    refine q H a (Kp.refl H) ?_
    rw [List.take_of_length_le (by omega)]
    exact ha
  · refine q _ p (Kp.new np) ?_
    rw [upd_same]
    exact congrArg (fun z => some (HO.tup z)) (cut_take l (k := 1))
end
theorem sq_all {K : PySem.W.Frag} {H H' : Hp} {R a : Addr} {xs : List V} (hR : H R = none) (h : SqL K H a xs) (k : KpR R H H') : SqL K H' a xs := by
  rcases h with (h | ⟨o, h⟩) | h
  · exact .inl (.inl (k.lst (fun z => by rw [z, hR] at h; cases h) h))
  · exact .inl (.inr ⟨o, k.same _ _ (fun z => by rw [z, hR] at h; cases h) h fun _ z => by cases z⟩)
  · exact .inr h
theorem KpR.new {R : Addr} {H : Hp} {xs : List V} (h : H R = none) {H' : Hp} (k : KpR R (upd H R (.lst xs)) H') : KpR R H H' := (KpR.of (Kp.new h)).trans k
theorem Terms.kp {H H' : Hp} {n : Nat} {a b : Addr} {wl ol : List Nat} {P1 P2 : Addr} (t : Terms H n a b wl ol P1 P2) (k : Kp H H') : Terms H' n a b wl ol P1 P2 :=
  ⟨t.n2, t.n9, k.tup t.ha, t.hw, t.hwl, k.tup t.hb, t.ho, t.hol, k.tabG t.t1, k.tabG t.t2⟩
theorem chkAll : ∀ n : Nat, 2 ≤ n → n ≤ 8 → chk n = true := by
  intro n h2 h8
  have : n = 2 ∨ n = 3 ∨ n = 4 ∨ n = 5 ∨ n = 6 ∨ n = 7 ∨ n = 8 := by omega
  rcases this with e | e | e | e | e | e | e
  · rw [e]; exact chk2
  · rw [e]; exact chk3
  · rw [e]; exact chk4
  · rw [e]; exact chk5
  · rw [e]; exact chk6
  · rw [e]; exact chk7
  · rw [e]; exact chk8
section
variable {P : Program} {w : World} {K : PySem.W.Frag} {mg : Str → Option Value} {base : Heap}
theorem Ax.ww (Y : Ax K mg base) : FnOk P w K mg base CX0 4 Y.whole.f Y.whole.fd p_wholewalk (spWhole Y.T3.P) := ok_whole Y.whole Y.needwishes Y.walks Y.spots Y.needsize Y.arewishes Y.T3 Y.isin Y.B
theorem Ax.ld (Y : Ax K mg base) : FnOk P w K mg base CX0 5 Y.lastd.f Y.lastd.fd p_lastdifference (spLastD Y.T1.P Y.T2.P) := ok_lastd Y.lastd Y.lastof Y.liesin Y.T2 Y.needterms Y.needwhole Y.needset Y.needsize Y.isset Y.T1 Y.isin Y.B
/-! ### law -/
def spLaw (K : PySem.W.Frag) (P1 P2 P3 : Addr) : Sp := fun vs H Q _ => ∃ (a : Addr) (ns : List Int), vs = [.ref a] ∧ SqL K H a (ns.map V.int) ∧ ns.length ≤ 63 ∧ TabG H P1 ∧ TabG H P2 ∧ TabG H P3 ∧ ∀ H', Q (.bl true) H'
theorem ok_law (Y : Ax K mg base) : FnOk P w K mg base CX0 6 Y.law.f Y.law.fd p_law (spLaw K Y.T1.P Y.T2.P Y.T3.P) := by
  refine Y.law.F.ok sc_law (fun vs H Q E h => ?_) (fun A outer s H vs Q E hr h => ?_)
  · obtain ⟨a, ns, rfl, _⟩ := h
    rfl
  · obtain ⟨a, ns, rfl, hsq, h63, hT1, hT2, hT3, q⟩ := h
    have nd := sc_law.nd
    have tk := ok_taken (P := P) (w := w) (base := base) Y.taken Y.B
    refine ⟨_, pss_cons (ps_set (i := 1) nd rfl (.inl rfl) (pe_lst (pa_cons (pv 0) (pa_cons pe_int (pa_cons pe_int (pa_cons pe_int pa_nil))))))
      (pss_cons (ps_set (i := 2) nd rfl (.inl rfl) (pe_op op_add pe_int (pe_call tk (hr.mono (by decide)) rfl Y.taken.g Y.taken.F.kp Y.taken.b .nil pass0 (pa_cons (pv 1) (pa_cons pe_int pa_nil)))))
      (pss_cons (ps_set (i := 3) nd rfl (.inr rfl) (pe_call (ok_Lwhole Y) (hr.mono (by decide)) rfl Y.Lwhole.g Y.Lwhole.F.kp Y.Lwhole.b .nil pass0 (pa_cons (pv 1) (pa_cons (pv 2) pa_nil))))
      (pss_cons (ps_set (i := 4) nd rfl (.inl rfl) (pe_call (ok_within Y) (hr.mono (by decide)) rfl Y.within.g Y.within.F.kp Y.within.b .nil pass0 (pa_cons (pv 1) (pa_cons (pv 3) pa_nil))))
      (pss_cons (ps_set (i := 5) nd rfl (.inl rfl) (pe_call (ok_dwalks Y) (hr.mono (by decide)) rfl Y.dwalks.g Y.dwalks.F.kp Y.dwalks.b .nil pass0 (pa_cons (pv 2) (pa_cons (pv 3) (pa_cons (pv 4) pa_nil)))))
      (pss_cons (ps_if (PW.pt (pw_or (pt_cmpR op_ne (pe_callB (cr_sumT rfl) (by rfl) Y.B.sum (by decide +kernel) (pa_cons (pv 5) pa_nil)) (pe_call (ok_count Y) (hr.mono (by decide)) rfl Y.count.g Y.count.F.kp Y.count.b .nil pass0 (pa_cons (pv 2) (pa_cons (pv 3) (pa_cons (pv 4) pa_nil)))) (nomark _))
          (pw_or (pt_cmpR op_in_seq pe_int (pv 5) rfl) (pw_or (pt_cmpR op_ne (pe_ix ix_tup (pv 5) pe_int (fun _ _ => rfl)) pe_int (nomark _)) (pw_or1 (pt_cmpR op_ne (pe_ix ix_tup (pv 5) (pe_un un_neg pe_int) (fun _ _ => rfl)) pe_int (nomark _))))))) pss_never pss_nil)
      (pss_cons (ps_if (PW.pt (pw_or (pt_cmpR op_ne (pe_call Y.ww (hr.mono (by decide)) rfl Y.whole.g Y.whole.F.kp Y.whole.b .nil pass0 (pa_cons (pv 2) (pa_cons (pe_op op_catN (pv 4) (pe_call Y.ld (hr.mono (by decide)) rfl Y.lastd.g Y.lastd.F.kp Y.lastd.b .nil pass0 (pa_cons (pv 2) (pa_cons (pv 3) (pa_cons (pv 4) pa_nil))))) pa_nil))) pe_int (nomark _))
          (pw_or1 (pt_cmpR op_ne (pe_call Y.ww (hr.mono (by decide)) rfl Y.whole.g Y.whole.F.kp Y.whole.b .nil pass0 (pa_cons (pv 2) (pa_cons (pe_op op_catN (pv 4) (pe_call (ok_firstd Y) (hr.mono (by decide)) rfl Y.firstd.g Y.firstd.F.kp Y.firstd.b .nil pass0 (pa_cons (pv 2) (pa_cons (pv 3) (pa_cons (pv 4) pa_nil))))) pa_nil))) (pe_op op_sub (pe_callB call_len_seq (by rfl) Y.B.len PySem.boot_len (pa_cons (pv 5) pa_nil)) pe_int) (nomark _))))) pss_never pss_nil)
      (pss_cons (ps_set (i := 6) nd rfl (.inl rfl) (pe_call (ok_pick Y) (hr.mono (by decide)) rfl Y.pick.g Y.pick.F.kp Y.pick.b .nil pass0 (pa_cons (pv 1) (pa_cons (pe_call (ok_diffs Y) (hr.mono (by decide)) rfl Y.diffs.g Y.diffs.F.kp Y.diffs.b .nil pass0 (pa_cons (pv 2) (pa_cons (pv 3) (pa_cons (pv 4) pa_nil)))) pa_nil))))
      (pss_cons (ps_set (i := 7) nd rfl (.inl rfl) (pe_call Y.ww (hr.mono (by decide)) rfl Y.whole.g Y.whole.F.kp Y.whole.b .nil pass0 (pa_cons (pv 2) (pa_cons (pe_op op_catN (pv 4) (pv 6)) pa_nil))))
      (pss_cons (ps_par (i := 8) (j := 9) rfl nd rfl rfl (by decide) rfl rfl (pa_cons (pe_call (ok_ranks Y) (hr.mono (by decide)) rfl Y.ranks.g Y.ranks.F.kp Y.ranks.b .nil pass0 (pa_cons (pv 2) (pa_cons (pv 3) (pa_cons (pv 6) pa_nil)))) (pa_cons (pe_call (ok_ranks Y) (hr.mono (by decide)) rfl Y.ranks.g Y.ranks.F.kp Y.ranks.b .nil pass0 (pa_cons (pv 2) (pa_cons (pv 3) (pa_cons (pe_call Y.ld (hr.mono (by decide)) rfl Y.lastd.g Y.lastd.F.kp Y.lastd.b .nil pass0 (pa_cons (pv 2) (pa_cons (pv 3) (pa_cons (pv 4) pa_nil)))) pa_nil)))) pa_nil)) (by rfl))
      (pss_cons (ps_if (PW.pt (pw_or (pt_cmpR op_ne (pv 7) (pe_op op_sub (pe_callB (cr_sumL rfl) (by rfl) Y.B.sum (by decide +kernel) (pa_cons (pv 9) pa_nil)) (pe_callB (cr_sumL rfl) (by rfl) Y.B.sum (by decide +kernel) (pa_cons (pv 8) pa_nil))) (nomark _))
          (pw_or1 (pt_cmpR op_lt (pe_ix ix_tup (pv 5) (pv 7) (fun _ _ => rfl)) pe_int (nomark _))))) pss_never pss_nil)
      (pss_cons (ps_set (i := 10) nd rfl (.inl rfl) (pe_callTy call_tupleL (by rfl) Y.B.tuple (by decide +kernel) (pa_cons (pe_lc (own := [("_law_place", 11)]) (g := gName 11) (tt := tTest (tOp (rIn K true) (tVar 11) (tVar 3))) (te := tVar 11) rfl nd (pi_range1 (by rfl) Y.B.range (pa_cons (pv 2) pa_nil)) (blkOk_by (N := n_law) (sc := defScope s_law) (by decide +kernel))
          (fun _ _ _ _ _ => pg_name (i := 11) nd rfl (.inl rfl) (.inr rfl)) (fun _ _ _ _ _ => pts_one (pt_cmpR op_notIn_seq (pv 11) (pv 3) rfl)) (fun _ _ _ _ _ => pv 11)) pa_nil)))
      (pss_one (ps_ret (pe_and (pe_cmpR (op_eqD hr.units) (pe_call (ok_dwalks Y) (hr.mono (by decide)) rfl Y.dwalks.g Y.dwalks.F.kp Y.dwalks.b .nil pass0 (pa_cons (pv 2) (pa_cons (pv 3) (pa_cons (pe_slice sl_tupN (pv 10) po_none (po_some pe_int)) pa_nil)))) (pe_tup pa_nil) (nomark _))
        (pe_and (pe_cmpR (op_eqD hr.units) (pe_call (ok_dwalks Y) (hr.mono (by decide)) rfl Y.dwalks.g Y.dwalks.F.kp Y.dwalks.b .nil pass0 (pa_cons (pv 2) (pa_cons (pv 3) (pa_cons (pe_tup pa_nil) pa_nil)))) (pe_tup (pa_cons pe_int pa_nil)) (nomark _))
        (pe_one (pe_cmpR (op_eqD hr.units) (pe_call (ok_dwalks Y) (hr.mono (by decide)) rfl Y.dwalks.g Y.dwalks.F.kp Y.dwalks.b .nil pass0 (pa_cons (pv 2) (pa_cons (pe_tup pa_nil) (pa_cons (pe_tup pa_nil) pa_nil)))) (pe_tup (pa_cons pe_int pa_nil)) (nomark _)))))))))))))))))), ?_⟩
    -- the row, the size, the sets
    refine ⟨.ref a, rfl, (by decide : 4 ≤ sizeLine), fun R nR => ?_⟩
    have x1 : RowOk K (upd H R (.lst [.ref a, .int 0, .int 8891, .int 0])) R a ns := ⟨0, 8891, 0, upd_same, fun H' k => sq_all nR hsq (KpR.new nR k), h63, by decide, by decide, by decide⟩
    refine ⟨.ref R, rfl, R, a, ns, 7, rfl, by decide, by decide, x1, fun H2 v k2 x2 lv => ⟨2, (v : Int), rfl, rfl, ?_⟩⟩
    obtain ⟨n, e2, n2, n8⟩ : ∃ n : Nat, V.int ((2 : Int) + (v : Int)) = V.int (n : Int) ∧ 2 ≤ n ∧ n ≤ 8 := ⟨2 + v, by rw [Int.natCast_add]; rfl, by omega, by omega⟩
    have g2 : some (some (V.int ((2 : Int) + (v : Int)))) = some (some (V.int (n : Int))) := by rw [e2]
    refine ⟨.ref R, rfl, .int (n : Int), g2, R, a, ns, n, rfl, x2, n2, by omega, fun H3 pw wl k3 x3 ew sw hwl => ?_⟩
    refine ⟨.ref R, rfl, .ref pw, rfl, R, a, ns, pw, wl, rfl, x3, ew, by omega, fun H4 po ol k4 x4 eo sub => ?_⟩
    obtain ⟨F, F1⟩ := facts_of (chkAll n n2 n8) sw hwl sub
    have lies := lies_of sub
    have so := sub_set sub sw
    have hle := sub.length_le
    have k14 := (k2.trans k3).trans k4
    have t4 : Terms H4 n pw po wl ol Y.T1.P Y.T2.P := ⟨n2, by omega, k4.tupO x3 ew, sw, hwl, eo, so, by omega, k14.tabG ((Kp.new nR).tabG hT1), k14.tabG ((Kp.new nR).tabG hT2)⟩
    have u4 := k14.tabG ((Kp.new nR).tabG hT3)
    clear x1 k2 k3 x2 x3 k4 k14 ew eo hsq
    -- the counts
    have hS := F.ne
    have eS : sumsL n wl ol = sumsD n wl ol := if_pos lies
    have eN : (sumsD n wl ol).length = (allD n wl ol).length := List.length_map _
    refine ⟨.int (n : Int), g2, .ref pw, rfl, .ref po, rfl, n, pw, po, wl, ol, rfl, t4, fun _ => F.all, fun H5 pc k5 ec => ?_⟩
    rw [eS] at ec
    have t5 := t4.kp k5
    refine ⟨.ref pc, rfl, pc, (countsOf (sumsD n wl ol)).map (fun n : Nat => (n : Int)), rfl, by rw [← nV_eq]; exact ec, .int (n : Int), g2, .ref pw, rfl, .ref po, rfl, n, pw, po, wl, ol, rfl, t5, lies, F.all, fun H6 k6 => ⟨rfl, _, rfl, ?_⟩⟩
    have q6 : V.int ((countsOf (sumsD n wl ol)).map fun n : Nat => (n : Int)).sum = V.int ((allD n wl ol).length : Int) := by rw [sum_nat, counts_sum hS, eN]
    rw [decide_eq_true q6]
    have t6 := t5.kp k6
    have ec6 := k6.tup ec
    have u6 := (k5.trans k6).tabG u4
    have x6 := x4.kp (k5.trans k6)
    clear ec t5 k5 k6 q6 t4 u4 x4
    refine iteF ⟨.ref pc, rfl, pc, nV (countsOf (sumsD n wl ol)), rfl, .inr (SqT.of ec6), rfl, nV_flat _, _, rfl, ?_⟩
    have h0 : inV (V.int 0) (nV (countsOf (sumsD n wl ol))) = false := (inV_nV 0 _).trans (counts_no0 hS F.up)
    show (if (if false = true then !inV (V.int 0) (nV (countsOf (sumsD n wl ol))) else inV (V.int 0) (nV (countsOf (sumsD n wl ol)))) = true then _ else _)
    rw [if_neg Bool.false_ne_true, h0]
    have a0 : atI (nV (countsOf (sumsD n wl ol))) 0 = some (.int 1) := by
      have := counts_get hS (Nat.zero_le _)
      rw [F.c0] at this
      exact atI_nat (j := 0) (nV_get this)
    have am : atI (nV (countsOf (sumsD n wl ol))) (-1) = some (.int 1) := by
      obtain ⟨l, e⟩ := counts_last hS F.cm
      rw [e, nV_snoc]
      exact atI_last _ _
    have d1 : decide (V.int 1 = V.int 1) = true := decide_eq_true rfl
    refine iteF ⟨.ref pc, rfl, pc, _, (0 : Int), .int 1, rfl, rfl, SqT.of ec6, a0, rfl, _, rfl, ?_⟩
    rw [d1]
    refine iteF ⟨.ref pc, rfl, (1 : Int), rfl, pc, _, (-1 : Int), .int 1, rfl, rfl, SqT.of ec6, am, rfl, _, rfl, ?_⟩
    rw [d1]
    refine iteF ?_
    -- the ends
    have hlow : ∀ x ∈ ol ++ lastD wl ol, x < n := fun x hx => by
      rcases List.mem_append.mp hx with h | h
      · exact so.1 x h
      · exact sw.1 x (List.mem_filter.mp h).1
    have hlowl : (ol ++ lastD wl ol).length ≤ n := by
      have nodup : (ol ++ lastD wl ol).Nodup := by
        refine List.nodup_append.mpr ⟨so.2.imp Nat.ne_of_lt, (sw.2.imp Nat.ne_of_lt).sublist List.filter_sublist, fun x hx y hy e => ?_⟩
        rw [← e] at hy
        have h1 := (List.mem_filter.mp hy).2
        rw [mem_iff.mpr hx] at h1
        cases h1
      have := L2.nat_nodup_len _ (List.range n) nodup fun x hx => List.mem_range.mpr (hlow x hx)
      rw [List.length_range] at this
      exact this
    have hfst : ∀ x ∈ ol ++ firstD n wl ol, x < n := fun x hx => by
      rcases List.mem_append.mp hx with h | h
      · exact so.1 x h
      · exact F.firstN x h
    have hfstl : (ol ++ firstD n wl ol).length ≤ n := by
      rw [List.length_append, F.firstL]
      omega
    refine ⟨.int (n : Int), g2, .ref po, rfl, .int (n : Int), g2, .ref pw, rfl, .ref po, rfl, n, pw, po, wl, ol, rfl, n2, by omega, t6.ha, sw, hwl, t6.hb, so, by omega, lies, t6.t1, t6.t2, fun H7 pl k7 el => ?_⟩
    have t7 := t6.kp k7
    refine ⟨po, pl, ol, lastD wl ol, rfl, rfl, t7.hb, el, by rw [List.length_append] at hlowl; omega, fun H8 pq k8 eq8 => ?_⟩
    refine ⟨n, pq, _, rfl, n2, by omega, eq8, hlow, hlowl, (k7.trans k8).tabG u6, fun H9 k9 => ⟨rfl, _, rfl, ?_⟩⟩
    have q9 : V.int (((walks n (ol ++ lastD wl ol)).sum : Nat) : Int) = V.int 0 := by rw [F.low0]; rfl
    rw [decide_eq_true q9]
    have k69 := (k7.trans k8).trans k9
    have t9 := t6.kp k69
    have ec9 := k69.tup ec6
    have u9 := k69.tabG u6
    have x9 := x6.kp k69
    clear t6 t7 u6 x6 k7 k8 k9 k69 el eq8 q9 ec6
    refine iteF ⟨.int (n : Int), g2, .ref po, rfl, .int (n : Int), g2, .ref pw, rfl, .ref po, rfl, n, pw, po, wl, ol, rfl, t9, lies, fun H10 pf k10 ef => ?_⟩
    have t10 := t9.kp k10
    refine ⟨po, pf, ol, firstD n wl ol, rfl, rfl, t10.hb, ef, by rw [List.length_append] at hfstl; omega, fun H11 pg k11 eg => ?_⟩
    refine ⟨n, pg, _, rfl, n2, by omega, eg, hfst, hfstl, (k10.trans k11).tabG u9, fun H12 k12 => ?_⟩
    have k92 := (k10.trans k11).trans k12
    refine ⟨.ref pc, rfl, pc, nV (countsOf (sumsD n wl ol)), rfl, .inr (SqT.of (k92.tup ec9)), _, 1, rfl, rfl, rfl, _, rfl, ?_⟩
    have q12 : V.int (((walks n (ol ++ firstD n wl ol)).sum : Nat) : Int) = V.int (((nV (countsOf (sumsD n wl ol))).length : Int) - 1) := by
      rw [F.first, nV_len, counts_len hS]
      congr 1
      omega
    rw [decide_eq_true q12]
    have t12 := t9.kp k92
    have ec12 := k92.tup ec9
    have u12 := k92.tabG u9
    have x12 := x9.kp k92
    clear t9 t10 u9 x9 k10 k11 k12 k92 ef eg q12 ec9
    -- one of the differences
    refine iteF ⟨.ref R, rfl, .int (n : Int), g2, .ref pw, rfl, .ref po, rfl, n, pw, po, wl, ol, rfl, t12, lies, F.all, fun H13 pd xs D' k13 ed rd pmd => ?_⟩
    have x13 := x12.kp k13
    have lxs : xs.length = (allD n wl ol).length := rd.length.trans pmd.length_eq
    have l63 : (allD n wl ol).length ≤ 63 := by
      have := F.all.few (bplaces n wl).length
      rw [List.take_length] at this
      unfold allD
      rw [List.length_map]
      exact this
    have l1 : 1 ≤ (allD n wl ol).length := by
      rw [← eN]
      exact List.length_pos_iff.mpr hS
    refine ⟨R, a, ns, pd, xs, rfl, x13, ed, by omega, by omega, fun H14 i x k14 x14 gx => ?_⟩
    obtain ⟨d, gd, pp, rfl, ep13⟩ := rd.get' gx
    have hd := pmd.mem_iff.mp (List.mem_of_getElem? gd)
    obtain ⟨hd1, hd2⟩ := F.all.alike d hd
    have t13 := t12.kp k13
    have t14 : Terms H14 n pw po wl ol Y.T1.P Y.T2.P := ⟨n2, by omega, k14.tupO x13 t13.ha, sw, hwl, k14.tupO x13 t13.hb, so, by omega, k14.tabG t13.t1, k14.tabG t13.t2⟩
    have u14 := k14.tabG (k13.tabG u12)
    have ec14 := k14.tupO x13 (k13.tup ec12)
    have ep14 := k14.tupO x13 ep13
    clear t12 t13 u12 x12 x13 k13 k14 ed rd ec12 gx ep13 x14
    have hod : ∀ x ∈ ol ++ d, x < n := fun x hx => by
      rcases List.mem_append.mp hx with h | h
      · exact so.1 x h
      · exact hd2 x h
    have hodl : (ol ++ d).length ≤ n := by
      rw [List.length_append, hd1]
      omega
    refine ⟨.int (n : Int), g2, .ref po, rfl, .ref pp, rfl, po, pp, ol, d, rfl, rfl, t14.hb, ep14, by rw [List.length_append] at hodl; omega, fun H15 pq k15 eq15 => ?_⟩
    refine ⟨n, pq, _, rfl, n2, by omega, eq15, hod, hodl, k15.tabG u14, fun H16 k16 => ?_⟩
    have k46 := k15.trans k16
    have t16 := t14.kp k46
    have ec16 := k46.tup ec14
    have ep16 := k46.tup ep14
    clear t14 k15 k16 k46 ec14 ep14 u14 eq15
    refine ⟨.int (n : Int), g2, .ref pw, rfl, .ref pp, rfl, n, pw, pp, wl, d, rfl, by omega, t16.ha, hwl, ep16, by omega, fun H17 pr k17 er => ?_⟩
    have t17 := t16.kp k17
    refine ⟨.int (n : Int), g2, .ref pw, rfl, .int (n : Int), g2, .ref pw, rfl, .ref po, rfl, n, pw, po, wl, ol, rfl, n2, by omega, t17.ha, sw, hwl, t17.hb, so, by omega, lies, t17.t1, t17.t2, fun H18 pl k18 el => ?_⟩
    have t18 := t17.kp k18
    refine ⟨n, pw, pl, wl, lastD wl ol, rfl, by omega, t18.ha, hwl, el, by rw [List.length_append] at hlowl; omega, fun H19 ps k19 es => ?_⟩
    refine ⟨.ref pr, .ref ps, rfl, ?_⟩
    have t19 := t18.kp k19
    have er19 := (k18.trans k19).lst er
    have ec19 := ((k17.trans k18).trans k19).tup ec16
    clear t16 t17 t18 k17 k18 k19 er el ep16 ec16
    -- the walk by ranks
    have hS2 : (walks n (ol ++ d)).sum ∈ sumsD n wl ol := List.mem_map.mpr ⟨d, hd, rfl⟩
    have q19 : V.int (((walks n (ol ++ d)).sum : Nat) : Int) = V.int (((ranksOf n wl (lastD wl ol)).map fun n : Nat => (n : Int)).sum - ((ranksOf n wl d).map fun n : Nat => (n : Int)).sum) := by
      rw [sum_nat, sum_nat, ← F.each d hd]
      congr 1
      omega
    refine ⟨_, rfl, .ref ps, rfl, ps, (ranksOf n wl (lastD wl ol)).map (fun n : Nat => (n : Int)), rfl, by rw [← nV_eq]; exact es, .ref pr, rfl, pr, (ranksOf n wl d).map (fun n : Nat => (n : Int)), rfl, by rw [← nV_eq]; exact er19, _, _, rfl, rfl, rfl, _, rfl, ?_⟩
    rw [decide_eq_true q19]
    have hwm := maxN_ge hS2
    refine iteF ⟨.ref pc, rfl, _, rfl, pc, nV (countsOf (sumsD n wl ol)), (((walks n (ol ++ d)).sum : Nat) : Int), .int ((cnt (walks n (ol ++ d)).sum (sumsD n wl ol) : Nat) : Int), rfl, rfl, SqT.of ec19, atI_nat (nV_get (counts_get hS hwm)), _, 1, rfl, rfl, _, rfl, ?_⟩
    have hcp := cnt_pos hS2
    rw [decide_eq_false (show ¬ (((cnt (walks n (ol ++ d)).sum (sumsD n wl ol) : Nat) : Int) < 1) by omega)]
    clear q19 es er19 ec19 hS2 hwm hcp
    -- places outside
    obtain ⟨hst, hsn⟩ := start_get hwl
    refine iteF ⟨.int (n : Int), g2, (n : Int), rfl, by omega, by omega, fun D nD => ?_⟩
    refine lc_acc (walk_range (lo := 0) (n := (n : Int).toNat)) (fun i => nV (((List.range n).take i).filter fun p => !mem p wl)) rfl (fun i hi => ?_) nD (fun _ _ => trivial) (fun i x H20 H21 hi k20 y C C' hC hC' => ?_) fun H20 k20 e20 => ?_
    · rw [nV_len]
      exact small1000 (Nat.le_trans (List.length_filter_le _ _) (by rw [List.length_take]; omega))
    · obtain ⟨rfl, rfl⟩ := y
      have hi2 : i < n := by omega
      have ft := filter_take (fun p => !mem p wl) (range_get hi2)
      refine ⟨rfl, .int ((0 : Int) + ((i : Nat) : Int)), rfl, .ref pw, rfl, pw, nV wl, rfl, .inr (SqT.of (k20.tup t19.ha)), rfl, nV_flat wl, _, rfl, ?_⟩
      show (if (if true = true then !inV (.int ((0 : Int) + ((i : Nat) : Int))) (nV wl) else inV (.int ((0 : Int) + ((i : Nat) : Int))) (nV wl)) = true then _ else _)
      rw [if_pos rfl, Int.zero_add, inV_nV]
      cases hm : mem i wl with
      | true =>
        refine iteF (hC' H21 (Kp.refl _) ?_)
        rw [ft, hm]
        simp
      | false =>
        refine iteT ⟨_, rfl, hC _ H21 (Kp.refl _) ?_⟩
        show _ = _ ++ [V.int ((0 : Int) + ((i : Nat) : Int))]
        rw [ft, hm, Int.zero_add]
        simp [nV]
    · have hall : (List.range n).take (n : Int).toNat = List.range n := by rw [Int.toNat_natCast, List.take_of_length_le (by rw [List.length_range]; exact Nat.le_refl _)]
      rw [hall] at e20
      refine ⟨D, _, rfl, e20, fun pz nz => ?_⟩
      have t21 := (t19.kp k20).kp (Kp.new (o := .tup (nV ((List.range n).filter fun p => !mem p wl))) nz)
      clear t19 k20 e20
      -- its first place
      have hO : ((List.range n).filter fun p => !mem p wl).take 1 = [startOf n wl] := by
        generalize ((List.range n).filter fun p => !mem p wl) = O at hst
        match O, hst with
        | y :: r, e =>
          have e : some y = some (startOf n wl) := e
          rw [Option.some.inj e]
          rfl
      have hnot : mem (startOf n wl) wl = false := by
        have h1 := (List.mem_filter.mp (List.mem_of_getElem? hst)).2
        cases hm : mem (startOf n wl) wl with
        | false => rfl
        | true =>
          rw [hm] at h1
          cases h1
      have hnl : (([startOf n wl] : List Nat).all fun x => mem x wl) = false := by
        show (mem (startOf n wl) wl && true) = false
        rw [hnot]
        rfl
      refine ⟨.int (n : Int), g2, .ref pw, rfl, .ref pz, rfl, (1 : Int), rfl, pz, (List.range n).filter (fun p => !mem p wl), rfl, rfl, rfl, upd_same, fun H22 py k22 ey => ?_⟩
      rw [hO] at ey
      have t22 := t21.kp k22
      refine ⟨n, pw, py, wl, [startOf n wl], rfl, ⟨n2, by omega, t22.ha, sw, hwl, ey, ⟨fun x hx => by rw [List.mem_singleton.mp hx]; exact hsn, List.pairwise_singleton _ _⟩, Nat.le_of_lt (by decide : 1 < 1000), t22.t1, t22.t2⟩, fun h => absurd h (by rw [hnl]; decide), fun H23 px k23 ex => ?_⟩
      have z1 : sumsL n wl [startOf n wl] = [] := if_neg (by rw [hnl]; decide)
      rw [z1] at ex
      refine ⟨Nat.zero_le _, fun pt nt => ⟨.tuple [], .tuple [], .tup (SqT.of ((Kp.new nt).tup ex)) .nil, .tup (SqT.of upd_same) .nil, rfl, rfl, _, rfl, ?_⟩⟩
      have t24 := (t22.kp k23).kp (Kp.new (o := .tup []) nt)
      clear t21 t22 ex
      refine iteT ⟨.int (n : Int), g2, .ref pw, rfl, Nat.zero_le _, fun pu nu => ?_⟩
      have t25 := t24.kp (Kp.new (o := .tup []) nu)
      obtain ⟨F0, _⟩ := facts_of (chkAll n n2 n8) sw hwl (List.nil_sublist wl)
      refine ⟨n, pw, pu, wl, [], rfl, ⟨n2, by omega, t25.ha, sw, hwl, upd_same, ⟨fun x hx => (by cases hx), List.Pairwise.nil⟩, by decide, t25.t1, t25.t2⟩, fun _ => F0.all, fun H26 pv k26 e26 => ?_⟩
      have z2 : countsOf (sumsL n wl []) = [1] := (congrArg countsOf (if_pos rfl)).trans F1
      rw [z2] at e26
      refine ⟨(by decide : 1 ≤ sizeLine), fun pt2 nt2 => ⟨.tuple [.int 1], .tuple [.int 1], .tup (SqT.of ((Kp.new nt2).tup e26)) (.cons (.int 1) .nil), .tup (SqT.of upd_same) (.cons (.int 1) .nil), rfl, rfl, _, rfl, ?_⟩⟩
      have t27 := (t25.kp k26).kp (Kp.new (o := .tup [.int 1]) nt2)
      clear t24 t25 e26
      have s0 : IsSet n [] := ⟨fun x hx => (by cases hx), List.Pairwise.nil⟩
      have l0 : ([] : List Nat).length < n := by show 0 < n; omega
      obtain ⟨F00, F01⟩ := facts_of (chkAll n n2 n8) s0 l0 (List.nil_sublist [])
      refine iteT ⟨.int (n : Int), g2, Nat.zero_le _, fun pa na => ⟨Nat.zero_le _, fun pb nb => ?_⟩⟩
      have t29 := (t27.kp (Kp.new (o := .tup []) na)).kp (Kp.new (o := .tup []) nb)
      have epa : upd (upd _ pa (.tup [])) pb (.tup []) pa = some (.tup (nV [])) := (Kp.new (o := .tup []) nb).tup (upd_same)
      refine ⟨n, pa, pb, [], [], rfl, ⟨n2, by omega, epa, s0, l0, upd_same, s0, by decide, t29.t1, t29.t2⟩, fun _ => F00.all, fun H30 pq3 k30 e30 => ?_⟩
      have z3 : countsOf (sumsL n [] []) = [1] := (congrArg countsOf (if_pos rfl)).trans F01
      rw [z3] at e30
      refine ⟨(by decide : 1 ≤ sizeLine), fun pt3 nt3 => ⟨.tuple [.int 1], .tuple [.int 1], .tup (SqT.of ((Kp.new nt3).tup e30)) (.cons (.int 1) .nil), .tup (SqT.of upd_same) (.cons (.int 1) .nil), rfl, rfl, ?_⟩⟩
      exact q _
end
end K91
set_option maxHeartbeats 0
namespace K91
open PySem PySem.Spec PyProof.Rows L2
/-! ### the head: facts by names, the run -/
def d_isin : He.DefD := ⟨("is_in", none), "is_in", "is_in", defArgs s_isin, defBody s_isin, defScope s_isin, [], []⟩
def d_needsize : He.DefD := ⟨("need_size", none), "need_size", "need_size", defArgs s_needsize, defBody s_needsize, defScope s_needsize, [], []⟩
def d_arewishes : He.DefD := ⟨("are_wishes", none), "are_wishes", "are_wishes", defArgs s_arewishes, defBody s_arewishes, defScope s_arewishes, [], []⟩
def d_needwishes : He.DefD := ⟨("need_wishes", none), "need_wishes", "need_wishes", defArgs s_needwishes, defBody s_needwishes, defScope s_needwishes, [], []⟩
def d_isset : He.DefD := ⟨("is_set", none), "is_set", "is_set", defArgs s_isset, defBody s_isset, defScope s_isset, [], []⟩
def d_needset : He.DefD := ⟨("need_set", none), "need_set", "need_set", defArgs s_needset, defBody s_needset, defScope s_needset, [], []⟩
def d_spotsof : He.DefD := ⟨("spots_of", none), "spots_of", "spots_of", defArgs s_spotsof, defBody s_spotsof, defScope s_spotsof, [], []⟩
def d_walksof : He.DefD := ⟨("walks_of", none), "walks_of", "walks_of", defArgs s_walksof, defBody s_walksof, defScope s_walksof, [], []⟩
def d_wholewalk : He.DefD := ⟨("whole_walk", none), "whole_walk", "whole_walk", defArgs s_wholewalk, defBody s_wholewalk, defScope s_wholewalk, [], []⟩
def d_blocksof : He.DefD := ⟨("blocks_of", none), "blocks_of", "blocks_of", defArgs s_blocksof, defBody s_blocksof, defScope s_blocksof, [], []⟩
def d_needwhole : He.DefD := ⟨("need_whole", none), "need_whole", "need_whole", defArgs s_needwhole, defBody s_needwhole, defScope s_needwhole, [], []⟩
def d_needterms : He.DefD := ⟨("need_terms", none), "need_terms", "need_terms", defArgs s_needterms, defBody s_needterms, defScope s_needterms, [], []⟩
def d_liesin : He.DefD := ⟨("lies_in", none), "lies_in", "lies_in", defArgs s_liesin, defBody s_liesin, defScope s_liesin, [], []⟩
def d_blockplaces : He.DefD := ⟨("block_places", none), "block_places", "block_places", defArgs s_blockplaces, defBody s_blockplaces, defScope s_blockplaces, [], []⟩
def d_gapranks : He.DefD := ⟨("gap_ranks", none), "gap_ranks", "gap_ranks", defArgs s_gapranks, defBody s_gapranks, defScope s_gapranks, [], []⟩
def d_firstof : He.DefD := ⟨("first_of", none), "first_of", "first_of", defArgs s_firstof, defBody s_firstof, defScope s_firstof, [], []⟩
def d_firstdifference : He.DefD := ⟨("first_difference", none), "first_difference", "first_difference", defArgs s_firstdifference, defBody s_firstdifference, defScope s_firstdifference, [], []⟩
def d_lastof : He.DefD := ⟨("last_of", none), "last_of", "last_of", defArgs s_lastof, defBody s_lastof, defScope s_lastof, [], []⟩
def d_lastdifference : He.DefD := ⟨("last_difference", none), "last_difference", "last_difference", defArgs s_lastdifference, defBody s_lastdifference, defScope s_lastdifference, [], []⟩
def d_rankrows : He.DefD := ⟨("rank_rows", none), "rank_rows", "rank_rows", defArgs s_rankrows, defBody s_rankrows, defScope s_rankrows, [], []⟩
def d_allof : He.DefD := ⟨("all_of", none), "all_of", "all_of", defArgs s_allof, defBody s_allof, defScope s_allof, [], []⟩
def d_differencecount : He.DefD := ⟨("difference_count", none), "difference_count", "difference_count", defArgs s_differencecount, defBody s_differencecount, defScope s_differencecount, [], []⟩
def d_differences : He.DefD := ⟨("differences", none), "differences", "differences", defArgs s_differences, defBody s_differences, defScope s_differences, [], []⟩
def d_differencewalks : He.DefD := ⟨("difference_walks", none), "difference_walks", "difference_walks", defArgs s_differencewalks, defBody s_differencewalks, defScope s_differencewalks, [], []⟩
def d_Ltaken : He.DefD := ⟨("_law_taken", none), "_law_taken", "_law_taken", defArgs s_Ltaken, defBody s_Ltaken, defScope s_Ltaken, [], []⟩
def d_Lpick : He.DefD := ⟨("_law_pick", none), "_law_pick", "_law_pick", defArgs s_Lpick, defBody s_Lpick, defScope s_Lpick, [], []⟩
def d_Lset : He.DefD := ⟨("_law_set", none), "_law_set", "_law_set", defArgs s_Lset, defBody s_Lset, defScope s_Lset, [], []⟩
def d_Lwhole : He.DefD := ⟨("_law_whole", none), "_law_whole", "_law_whole", defArgs s_Lwhole, defBody s_Lwhole, defScope s_Lwhole, [], []⟩
def d_Lwithin : He.DefD := ⟨("_law_within", none), "_law_within", "_law_within", defArgs s_Lwithin, defBody s_Lwithin, defScope s_Lwithin, [], []⟩
def d_Lranks : He.DefD := ⟨("_law_ranks", none), "_law_ranks", "_law_ranks", defArgs s_Lranks, defBody s_Lranks, defScope s_Lranks, [], []⟩
def d_law : He.DefD := ⟨("law", none), "law", "law", defArgs s_law, defBody s_law, defScope s_law, [], []⟩
def fnL : List He.DefD := [d_isin, d_needsize, d_arewishes, d_needwishes, d_isset, d_needset, d_spotsof, d_walksof, d_wholewalk, d_blocksof, d_needwhole, d_needterms, d_liesin, d_blockplaces, d_gapranks, d_firstof, d_firstdifference, d_lastof, d_lastdifference, d_rankrows, d_allof, d_differencecount, d_differences, d_differencewalks, d_Ltaken, d_Lpick, d_Lset, d_Lwhole, d_Lwithin, d_Lranks, d_law]
def faL : List He.Fa := [.glo "is_in", .glo "need_size", .glo "are_wishes", .glo "need_wishes", .glo "is_set", .glo "need_set", .glo "spots_of", .glo "walks_of", .glo "whole_walk", .glo "blocks_of", .glo "need_whole", .glo "need_terms", .glo "lies_in", .glo "block_places", .glo "gap_ranks", .glo "first_of", .glo "first_difference", .glo "last_of", .glo "last_difference", .glo "rank_rows", .glo "all_of", .glo "difference_count", .glo "differences", .glo "difference_walks", .glo "_law_taken", .glo "_law_pick", .glo "_law_set", .glo "_law_whole", .glo "_law_within", .glo "_law_ranks", .glo "law", .free "isinstance", .free "int", .free "bool", .free "tuple", .free "len", .free "all", .free "range", .free "sorted", .free "sum", .free "zip", .free "enumerate", .free "max", .int "LEAST_SIZE" 2, .int "MOST_SIZE" 9]
def tfL : List He.Defn := [("is_set", none), ("lies_in", none), ("are_wishes", none)]
def loose1 : List Str := ["ParkError", "BadSize", "BadWishes", "BadSet", "BadWhole", "LEAST_SIZE", "MOST_SIZE", "is_in", "need_size", "are_wishes", "need_wishes", "is_set", "need_set", "spots_of", "walks_of", "whole_walk", "blocks_of", "need_whole", "need_terms", "lies_in", "block_places", "gap_ranks"]
def loose2 : List Str := ["first_of", "first_difference", "last_of", "last_difference", "rank_rows", "all_of", "difference_count", "differences", "difference_walks", "_law_taken", "_law_pick", "_law_alike", "_law_spots", "_law_sum", "_law_sets", "_law_set", "_law_wishes", "_law_whole", "_law_within", "_law_differences", "_law_ranks"]
abbrev RR : PySem.W.OpenRow := PySem.W.OpenLaw.row PySem.Challenge.rw_parksums_k91_across_differences_by_walk
abbrev hk : PySem.W.Hook := He.hookX 4 faL fnL [] tfL fun _ => true
def ob (s : PySem.W.SharedT) : He.AlX := He.obsX 4 faL fnL [] tfL (fun _ => true) (HandSHeadRun.getT s)
theorem ob_eq (s : PySem.W.SharedT) : ob s = hk.obs s.abs := He.obsX_eq (HandSHeadRun.getT_eq s)
theorem run (w : World) : HandSHeadRun.RunEq RR (PySem.W.view RR.prog [49]) hk ob 6000 (loose1 ++ loose2) w := by
  intro os
  kernel_rfl
end K91
namespace K91
open PySem PySem.Spec PyProof.Rows L2
open GxR (TabB TabG Tabbed inv_tab sh_eta GenS keeps_refl keeps_tok)
/-! ### the end -/
section
variable {K : PySem.W.Frag} {mg : Str → Option Value} {h : Heap}
def mkDx {x : Str} {st : Stmt} {ps : List Str} {f : Addr} {fd : FuncData} (F : FunD K x x (defArgs st) (defBody st) (defScope st) [] [] f fd) (g : mg x = some (.ref f)) (b : Binds K fd ps []) : Dx K mg x st ps := ⟨f, fd, fd.code, FunC.of F, g, b⟩
theorem code_at {x : Str} {st : Stmt} {p : He.Defn} {fd : FuncData} (F : FunD K x x (defArgs st) (defBody st) (defScope st) [] [] (He.fAd K p) fd) : fd.code = .ref (He.codeOf K p) := by
  obtain ⟨oc, od, dV, kV, doc, pm, an, cdv, ct, osl, rfl, lk, hcd, _, _⟩ := F.ex
  cases cdv with
  | ref c =>
    show Value.ref c = _
    rw [He.codeOf_eq lk rfl]
  | _ => exact absurd (show false = true from hcd) Bool.false_ne_true
theorem bind1 {x a : Str} {st : Stmt} {f : Addr} {fd : FuncData} (F : FunD K x x (defArgs st) (defBody st) (defScope st) [] [] f fd) (h : ∀ (kV doc pm : Value) (an : Option Addr) (cdv ct u : Value), bindArgs (PySem.W.fnOf x x (defArgs st) (defBody st) (defScope st) .none kV doc pm an cdv ct) ⟨[u], []⟩ = pure [(a, u)]) : Binds K fd [a] [] :=
  F.bindsN fun _ _ _ _ _ _ us hl => match us, hl with | [_], _ => h _ _ _ _ _ _ _
theorem bind2 {x a b : Str} {st : Stmt} {f : Addr} {fd : FuncData} (F : FunD K x x (defArgs st) (defBody st) (defScope st) [] [] f fd) (h : ∀ (kV doc pm : Value) (an : Option Addr) (cdv ct u v : Value), bindArgs (PySem.W.fnOf x x (defArgs st) (defBody st) (defScope st) .none kV doc pm an cdv ct) ⟨[u, v], []⟩ = pure [(a, u), (b, v)]) : Binds K fd [a, b] [] :=
  F.bindsN fun _ _ _ _ _ _ us hl => match us, hl with | [_, _], _ => h _ _ _ _ _ _ _ _
theorem bind3 {x a b c : Str} {st : Stmt} {f : Addr} {fd : FuncData} (F : FunD K x x (defArgs st) (defBody st) (defScope st) [] [] f fd) (h : ∀ (kV doc pm : Value) (an : Option Addr) (cdv ct u v w : Value), bindArgs (PySem.W.fnOf x x (defArgs st) (defBody st) (defScope st) .none kV doc pm an cdv ct) ⟨[u, v, w], []⟩ = pure [(a, u), (b, v), (c, w)]) : Binds K fd [a, b, c] [] :=
  F.bindsN fun _ _ _ _ _ _ us hl => match us, hl with | [_, _, _], _ => h _ _ _ _ _ _ _ _ _
theorem law_at {w : World} {fa : Addr} (X : K.In h) (G : h.Ns mainGlobals mg) (hfa : mg ("law" : Str) = some (.ref fa)) (c : He.SaysX faL fnL [] tfL (fun _ => true) w h K) : LamX.LawAtS PySem.Challenge.rw_parksums_k91_across_differences_by_walk w K CX0 6 63 "_law_script" mg fa h := by
  obtain ⟨fd0, F0⟩ : ∃ fd, FunD K "is_in" "is_in" (defArgs s_isin) (defBody s_isin) (defScope s_isin) [] [] (He.fAd K ("is_in", none)) fd := c.t.d.def_ 0 (d := d_isin) rfl
  have G0 := He.glo_ok X G (c.t.d.fact 0 (f := .glo "is_in") rfl)
  obtain ⟨fd1, F1⟩ : ∃ fd, FunD K "need_size" "need_size" (defArgs s_needsize) (defBody s_needsize) (defScope s_needsize) [] [] (He.fAd K ("need_size", none)) fd := c.t.d.def_ 1 (d := d_needsize) rfl
  have G1 := He.glo_ok X G (c.t.d.fact 1 (f := .glo "need_size") rfl)
  obtain ⟨fd2, F2⟩ : ∃ fd, FunD K "are_wishes" "are_wishes" (defArgs s_arewishes) (defBody s_arewishes) (defScope s_arewishes) [] [] (He.fAd K ("are_wishes", none)) fd := c.t.d.def_ 2 (d := d_arewishes) rfl
  have G2 := He.glo_ok X G (c.t.d.fact 2 (f := .glo "are_wishes") rfl)
  obtain ⟨fd3, F3⟩ : ∃ fd, FunD K "need_wishes" "need_wishes" (defArgs s_needwishes) (defBody s_needwishes) (defScope s_needwishes) [] [] (He.fAd K ("need_wishes", none)) fd := c.t.d.def_ 3 (d := d_needwishes) rfl
  have G3 := He.glo_ok X G (c.t.d.fact 3 (f := .glo "need_wishes") rfl)
  obtain ⟨fd4, F4⟩ : ∃ fd, FunD K "is_set" "is_set" (defArgs s_isset) (defBody s_isset) (defScope s_isset) [] [] (He.fAd K ("is_set", none)) fd := c.t.d.def_ 4 (d := d_isset) rfl
  have G4 := He.glo_ok X G (c.t.d.fact 4 (f := .glo "is_set") rfl)
  obtain ⟨fd5, F5⟩ : ∃ fd, FunD K "need_set" "need_set" (defArgs s_needset) (defBody s_needset) (defScope s_needset) [] [] (He.fAd K ("need_set", none)) fd := c.t.d.def_ 5 (d := d_needset) rfl
  have G5 := He.glo_ok X G (c.t.d.fact 5 (f := .glo "need_set") rfl)
  obtain ⟨fd6, F6⟩ : ∃ fd, FunD K "spots_of" "spots_of" (defArgs s_spotsof) (defBody s_spotsof) (defScope s_spotsof) [] [] (He.fAd K ("spots_of", none)) fd := c.t.d.def_ 6 (d := d_spotsof) rfl
  have G6 := He.glo_ok X G (c.t.d.fact 6 (f := .glo "spots_of") rfl)
  obtain ⟨fd7, F7⟩ : ∃ fd, FunD K "walks_of" "walks_of" (defArgs s_walksof) (defBody s_walksof) (defScope s_walksof) [] [] (He.fAd K ("walks_of", none)) fd := c.t.d.def_ 7 (d := d_walksof) rfl
  have G7 := He.glo_ok X G (c.t.d.fact 7 (f := .glo "walks_of") rfl)
  obtain ⟨fd8, F8⟩ : ∃ fd, FunD K "whole_walk" "whole_walk" (defArgs s_wholewalk) (defBody s_wholewalk) (defScope s_wholewalk) [] [] (He.fAd K ("whole_walk", none)) fd := c.t.d.def_ 8 (d := d_wholewalk) rfl
  have G8 := He.glo_ok X G (c.t.d.fact 8 (f := .glo "whole_walk") rfl)
  obtain ⟨fd9, F9⟩ : ∃ fd, FunD K "blocks_of" "blocks_of" (defArgs s_blocksof) (defBody s_blocksof) (defScope s_blocksof) [] [] (He.fAd K ("blocks_of", none)) fd := c.t.d.def_ 9 (d := d_blocksof) rfl
  have G9 := He.glo_ok X G (c.t.d.fact 9 (f := .glo "blocks_of") rfl)
  obtain ⟨fd10, F10⟩ : ∃ fd, FunD K "need_whole" "need_whole" (defArgs s_needwhole) (defBody s_needwhole) (defScope s_needwhole) [] [] (He.fAd K ("need_whole", none)) fd := c.t.d.def_ 10 (d := d_needwhole) rfl
  have G10 := He.glo_ok X G (c.t.d.fact 10 (f := .glo "need_whole") rfl)
  obtain ⟨fd11, F11⟩ : ∃ fd, FunD K "need_terms" "need_terms" (defArgs s_needterms) (defBody s_needterms) (defScope s_needterms) [] [] (He.fAd K ("need_terms", none)) fd := c.t.d.def_ 11 (d := d_needterms) rfl
  have G11 := He.glo_ok X G (c.t.d.fact 11 (f := .glo "need_terms") rfl)
  obtain ⟨fd12, F12⟩ : ∃ fd, FunD K "lies_in" "lies_in" (defArgs s_liesin) (defBody s_liesin) (defScope s_liesin) [] [] (He.fAd K ("lies_in", none)) fd := c.t.d.def_ 12 (d := d_liesin) rfl
  have G12 := He.glo_ok X G (c.t.d.fact 12 (f := .glo "lies_in") rfl)
  obtain ⟨fd13, F13⟩ : ∃ fd, FunD K "block_places" "block_places" (defArgs s_blockplaces) (defBody s_blockplaces) (defScope s_blockplaces) [] [] (He.fAd K ("block_places", none)) fd := c.t.d.def_ 13 (d := d_blockplaces) rfl
  have G13 := He.glo_ok X G (c.t.d.fact 13 (f := .glo "block_places") rfl)
  obtain ⟨fd14, F14⟩ : ∃ fd, FunD K "gap_ranks" "gap_ranks" (defArgs s_gapranks) (defBody s_gapranks) (defScope s_gapranks) [] [] (He.fAd K ("gap_ranks", none)) fd := c.t.d.def_ 14 (d := d_gapranks) rfl
  have G14 := He.glo_ok X G (c.t.d.fact 14 (f := .glo "gap_ranks") rfl)
  obtain ⟨fd15, F15⟩ : ∃ fd, FunD K "first_of" "first_of" (defArgs s_firstof) (defBody s_firstof) (defScope s_firstof) [] [] (He.fAd K ("first_of", none)) fd := c.t.d.def_ 15 (d := d_firstof) rfl
  have G15 := He.glo_ok X G (c.t.d.fact 15 (f := .glo "first_of") rfl)
  obtain ⟨fd16, F16⟩ : ∃ fd, FunD K "first_difference" "first_difference" (defArgs s_firstdifference) (defBody s_firstdifference) (defScope s_firstdifference) [] [] (He.fAd K ("first_difference", none)) fd := c.t.d.def_ 16 (d := d_firstdifference) rfl
  have G16 := He.glo_ok X G (c.t.d.fact 16 (f := .glo "first_difference") rfl)
  obtain ⟨fd17, F17⟩ : ∃ fd, FunD K "last_of" "last_of" (defArgs s_lastof) (defBody s_lastof) (defScope s_lastof) [] [] (He.fAd K ("last_of", none)) fd := c.t.d.def_ 17 (d := d_lastof) rfl
  have G17 := He.glo_ok X G (c.t.d.fact 17 (f := .glo "last_of") rfl)
  obtain ⟨fd18, F18⟩ : ∃ fd, FunD K "last_difference" "last_difference" (defArgs s_lastdifference) (defBody s_lastdifference) (defScope s_lastdifference) [] [] (He.fAd K ("last_difference", none)) fd := c.t.d.def_ 18 (d := d_lastdifference) rfl
  have G18 := He.glo_ok X G (c.t.d.fact 18 (f := .glo "last_difference") rfl)
  obtain ⟨fd19, F19⟩ : ∃ fd, FunD K "rank_rows" "rank_rows" (defArgs s_rankrows) (defBody s_rankrows) (defScope s_rankrows) [] [] (He.fAd K ("rank_rows", none)) fd := c.t.d.def_ 19 (d := d_rankrows) rfl
  have G19 := He.glo_ok X G (c.t.d.fact 19 (f := .glo "rank_rows") rfl)
  obtain ⟨fd20, F20⟩ : ∃ fd, FunD K "all_of" "all_of" (defArgs s_allof) (defBody s_allof) (defScope s_allof) [] [] (He.fAd K ("all_of", none)) fd := c.t.d.def_ 20 (d := d_allof) rfl
  have G20 := He.glo_ok X G (c.t.d.fact 20 (f := .glo "all_of") rfl)
  obtain ⟨fd21, F21⟩ : ∃ fd, FunD K "difference_count" "difference_count" (defArgs s_differencecount) (defBody s_differencecount) (defScope s_differencecount) [] [] (He.fAd K ("difference_count", none)) fd := c.t.d.def_ 21 (d := d_differencecount) rfl
  have G21 := He.glo_ok X G (c.t.d.fact 21 (f := .glo "difference_count") rfl)
  obtain ⟨fd22, F22⟩ : ∃ fd, FunD K "differences" "differences" (defArgs s_differences) (defBody s_differences) (defScope s_differences) [] [] (He.fAd K ("differences", none)) fd := c.t.d.def_ 22 (d := d_differences) rfl
  have G22 := He.glo_ok X G (c.t.d.fact 22 (f := .glo "differences") rfl)
  obtain ⟨fd23, F23⟩ : ∃ fd, FunD K "difference_walks" "difference_walks" (defArgs s_differencewalks) (defBody s_differencewalks) (defScope s_differencewalks) [] [] (He.fAd K ("difference_walks", none)) fd := c.t.d.def_ 23 (d := d_differencewalks) rfl
  have G23 := He.glo_ok X G (c.t.d.fact 23 (f := .glo "difference_walks") rfl)
  obtain ⟨fd24, F24⟩ : ∃ fd, FunD K "_law_taken" "_law_taken" (defArgs s_Ltaken) (defBody s_Ltaken) (defScope s_Ltaken) [] [] (He.fAd K ("_law_taken", none)) fd := c.t.d.def_ 24 (d := d_Ltaken) rfl
  have G24 := He.glo_ok X G (c.t.d.fact 24 (f := .glo "_law_taken") rfl)
  obtain ⟨fd25, F25⟩ : ∃ fd, FunD K "_law_pick" "_law_pick" (defArgs s_Lpick) (defBody s_Lpick) (defScope s_Lpick) [] [] (He.fAd K ("_law_pick", none)) fd := c.t.d.def_ 25 (d := d_Lpick) rfl
  have G25 := He.glo_ok X G (c.t.d.fact 25 (f := .glo "_law_pick") rfl)
  obtain ⟨fd26, F26⟩ : ∃ fd, FunD K "_law_set" "_law_set" (defArgs s_Lset) (defBody s_Lset) (defScope s_Lset) [] [] (He.fAd K ("_law_set", none)) fd := c.t.d.def_ 26 (d := d_Lset) rfl
  have G26 := He.glo_ok X G (c.t.d.fact 26 (f := .glo "_law_set") rfl)
  obtain ⟨fd27, F27⟩ : ∃ fd, FunD K "_law_whole" "_law_whole" (defArgs s_Lwhole) (defBody s_Lwhole) (defScope s_Lwhole) [] [] (He.fAd K ("_law_whole", none)) fd := c.t.d.def_ 27 (d := d_Lwhole) rfl
  have G27 := He.glo_ok X G (c.t.d.fact 27 (f := .glo "_law_whole") rfl)
  obtain ⟨fd28, F28⟩ : ∃ fd, FunD K "_law_within" "_law_within" (defArgs s_Lwithin) (defBody s_Lwithin) (defScope s_Lwithin) [] [] (He.fAd K ("_law_within", none)) fd := c.t.d.def_ 28 (d := d_Lwithin) rfl
  have G28 := He.glo_ok X G (c.t.d.fact 28 (f := .glo "_law_within") rfl)
  obtain ⟨fd29, F29⟩ : ∃ fd, FunD K "_law_ranks" "_law_ranks" (defArgs s_Lranks) (defBody s_Lranks) (defScope s_Lranks) [] [] (He.fAd K ("_law_ranks", none)) fd := c.t.d.def_ 29 (d := d_Lranks) rfl
  have G29 := He.glo_ok X G (c.t.d.fact 29 (f := .glo "_law_ranks") rfl)
  obtain ⟨fd30, F30⟩ : ∃ fd, FunD K "law" "law" (defArgs s_law) (defBody s_law) (defScope s_law) [] [] (He.fAd K ("law", none)) fd := c.t.d.def_ 30 (d := d_law) rfl
  have G30 := He.glo_ok X G (c.t.d.fact 30 (f := .glo "law") rfl)
  have e := hfa.symm.trans G30
  cases e
  have f_isi := He.free_ok X G (c.t.d.fact 31 (f := .free "isinstance") rfl)
  have f_int := He.free_ok X G (c.t.d.fact 32 (f := .free "int") rfl)
  have f_bool := He.free_ok X G (c.t.d.fact 33 (f := .free "bool") rfl)
  have f_tuple := He.free_ok X G (c.t.d.fact 34 (f := .free "tuple") rfl)
  have f_len := He.free_ok X G (c.t.d.fact 35 (f := .free "len") rfl)
  have f_all := He.free_ok X G (c.t.d.fact 36 (f := .free "all") rfl)
  have f_range := He.free_ok X G (c.t.d.fact 37 (f := .free "range") rfl)
  have f_sorted := He.free_ok X G (c.t.d.fact 38 (f := .free "sorted") rfl)
  have f_sum := He.free_ok X G (c.t.d.fact 39 (f := .free "sum") rfl)
  have f_zip := He.free_ok X G (c.t.d.fact 40 (f := .free "zip") rfl)
  have f_enum := He.free_ok X G (c.t.d.fact 41 (f := .free "enumerate") rfl)
  have f_max := He.free_ok X G (c.t.d.fact 42 (f := .free "max") rfl)
  have i_ls := He.int_ok X G (c.t.d.fact 43 (f := .int "LEAST_SIZE" 2) rfl)
  have i_ms := He.int_ok X G (c.t.d.fact 44 (f := .int "MOST_SIZE" 9) rfl)
  have B : Bz mg := ⟨f_isi, f_int, f_bool, f_tuple, f_len, f_all, f_range, f_sorted, f_sum, f_zip, f_enum, f_max, i_ls, i_ms⟩
  refine ⟨fd30, tfL.map (He.cT K), spLaw K (He.cT K ("is_set", none)).2 (He.cT K ("lies_in", none)).2 (He.cT K ("are_wishes", none)).2, fun p hp => ?_, fun p hp => ?_, fun p hp => ?_, fun s u => ?_, fun H a ns hl _ hH hS => ?_, fun base hK hG hT => ?_⟩
  · obtain ⟨q, hq, rfl⟩ := List.mem_map.mp hp
    exact c.empty q hq
  · obtain ⟨q, hq, rfl⟩ := List.mem_map.mp hp
    exact c.out q hq
  · obtain ⟨q, hq, rfl⟩ := List.mem_map.mp hp
    exact PySem.W.codeHd_of_K X (c.hd q hq)
  · exact FunD.bindsA (ps := ["_law_script"]) F30 (fun _ _ _ _ _ _ us hl => match us, hl with | [_], _ => rfl) s [u] rfl
  · have T : ∀ p ∈ tfL, TabG H (He.cT K p).2 := fun p hp => ⟨#[], hH _ (List.mem_map.mpr ⟨p, hp, rfl⟩), True.intro⟩
    exact ⟨a, ns, rfl, hS, hl, T _ (.head _), T _ (.tail _ (.head _)), T _ (.tail _ (.tail _ (.head _))), fun _ => rfl⟩
  · have hT2 : ∀ p ∈ tfL, TabB base mg (He.codeOf K p) (He.cT K p).2 := fun p hp => (let z := hT _ (List.mem_map.mpr ⟨p, hp, rfl⟩); ⟨z.code, z.bm, z.gP⟩)
    exact ok_law {
      B := B
      isin := mkDx F0 G0 (bind3 F0 fun _ _ _ _ _ _ _ _ _ => rfl)
      needsize := mkDx F1 G1 (bind1 F1 fun _ _ _ _ _ _ _ => rfl)
      arewishes := mkDx F2 G2 (bind2 F2 fun _ _ _ _ _ _ _ _ => rfl)
      needwishes := mkDx F3 G3 (bind2 F3 fun _ _ _ _ _ _ _ _ => rfl)
      isset := mkDx F4 G4 (bind2 F4 fun _ _ _ _ _ _ _ _ => rfl)
      needset := mkDx F5 G5 (bind2 F5 fun _ _ _ _ _ _ _ _ => rfl)
      spots := mkDx F6 G6 (bind2 F6 fun _ _ _ _ _ _ _ _ => rfl)
      walks := mkDx F7 G7 (bind2 F7 fun _ _ _ _ _ _ _ _ => rfl)
      whole := mkDx F8 G8 (bind2 F8 fun _ _ _ _ _ _ _ _ => rfl)
      blocks := mkDx F9 G9 (bind2 F9 fun _ _ _ _ _ _ _ _ => rfl)
      needwhole := mkDx F10 G10 (bind2 F10 fun _ _ _ _ _ _ _ _ => rfl)
      needterms := mkDx F11 G11 (bind3 F11 fun _ _ _ _ _ _ _ _ _ => rfl)
      liesin := mkDx F12 G12 (bind2 F12 fun _ _ _ _ _ _ _ _ => rfl)
      places := mkDx F13 G13 (bind2 F13 fun _ _ _ _ _ _ _ _ => rfl)
      gaps := mkDx F14 G14 (bind2 F14 fun _ _ _ _ _ _ _ _ => rfl)
      firstof := mkDx F15 G15 (bind3 F15 fun _ _ _ _ _ _ _ _ _ => rfl)
      firstd := mkDx F16 G16 (bind3 F16 fun _ _ _ _ _ _ _ _ _ => rfl)
      lastof := mkDx F17 G17 (bind2 F17 fun _ _ _ _ _ _ _ _ => rfl)
      lastd := mkDx F18 G18 (bind3 F18 fun _ _ _ _ _ _ _ _ _ => rfl)
      rows := mkDx F19 G19 (bind1 F19 fun _ _ _ _ _ _ _ => rfl)
      allof := mkDx F20 G20 (bind3 F20 fun _ _ _ _ _ _ _ _ _ => rfl)
      count := mkDx F21 G21 (bind3 F21 fun _ _ _ _ _ _ _ _ _ => rfl)
      diffs := mkDx F22 G22 (bind3 F22 fun _ _ _ _ _ _ _ _ _ => rfl)
      dwalks := mkDx F23 G23 (bind3 F23 fun _ _ _ _ _ _ _ _ _ => rfl)
      taken := mkDx F24 G24 (bind2 F24 fun _ _ _ _ _ _ _ _ => rfl)
      pick := mkDx F25 G25 (bind2 F25 fun _ _ _ _ _ _ _ _ => rfl)
      Lset := mkDx F26 G26 (bind2 F26 fun _ _ _ _ _ _ _ _ => rfl)
      Lwhole := mkDx F27 G27 (bind2 F27 fun _ _ _ _ _ _ _ _ => rfl)
      within := mkDx F28 G28 (bind2 F28 fun _ _ _ _ _ _ _ _ => rfl)
      ranks := mkDx F29 G29 (bind3 F29 fun _ _ _ _ _ _ _ _ _ => rfl)
      law := mkDx F30 G30 (bind1 F30 fun _ _ _ _ _ _ _ => rfl)
      T1 := ⟨He.codeOf K ("is_set", none), (He.cT K ("is_set", none)).2, code_at (p := ("is_set", none)) F4, hT2 _ (.head _)⟩
      T2 := ⟨He.codeOf K ("lies_in", none), (He.cT K ("lies_in", none)).2, code_at (p := ("lies_in", none)) F12, hT2 _ (.tail _ (.head _))⟩
      T3 := ⟨He.codeOf K ("are_wishes", none), (He.cT K ("are_wishes", none)).2, code_at (p := ("are_wishes", none)) F2, hT2 _ (.tail _ (.tail _ (.head _)))⟩
    }
end
end K91
open PySem PySem.W PySem.Calls PyProof.Rows
theorem PySem.Challenge.cw_parksums_k91_across_differences_by_walk_holds : PySem.Challenge.rw_parksums_k91_across_differences_by_walk.Holds := by
  w_on; o_law
  refine HandSHeadRun.head_any (r := OpenLaw.row PySem.Challenge.rw_parksums_k91_across_differences_by_walk) (q := view (OpenLaw.row PySem.Challenge.rw_parksums_k91_across_differences_by_walk).prog [49]) (H := K91.hk) (ob := K91.ob) (M := 6000) (loose := K91.loose1 ++ K91.loose2) (d := HandSHeadRun.topDef (OpenLaw.row PySem.Challenge.rw_parksums_k91_across_differences_by_walk).prog 49) (kwd := []) K91.ob_eq
    (by kernel_rfl) (fun s => by kernel_rfl) K91.run (by kernel_rfl) (by kernel_rfl) (by kernel_rfl) (by rfl) (by first | assumption | decide +kernel) (by decide +kernel) ⟨rfl, rfl, rfl, rfl, rfl, by decide +kernel⟩ ?hw ?hc
  case hw => w_witness2
  case hc =>
    refine LamX.walk_ofTsE (l := PySem.Challenge.rw_parksums_k91_across_differences_by_walk) (n := 63) (k := 6) (x := "_law_script") (CX := fun _ => L2.CX0) rfl (by decide) (by kernel_rfl) ⟨rfl, by decide, by decide⟩ ?F (fun _ _ _ _ _ z => z)
    intro w mg fa h Y G hmg0
    obtain ⟨K, KX, c⟩ := Y
    have hmg : mg ("law" : PySem.Str) = some (.ref fa) := by
      have e : (HandSHeadRun.topDef (OpenLaw.row PySem.Challenge.rw_parksums_k91_across_differences_by_walk).prog 49).name = ("law" : PySem.Str) := by kernel_rfl
      rw [← e]
      exact hmg0
    exact ⟨K, KX, K91.law_at KX G hmg c⟩
