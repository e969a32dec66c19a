import PyProof.Rows.All
import Wide.All
import OpenK.AllK
import Wide.FinOn
import HandS.ForMost
import HandS.ForExc
import HandS.Zip
import HandS.TupAny
import HandS.Style
import HandS.IsInst
import HandS.ExcIs
import HandS.Deep
import HandS.Conv
import HandS.DictTup
import HandS.Wide
import HandS.AnyAll
import HandS.EndTab
import HandS.HeadWalk
import HandS.Small
import HandS.SetFor
import HandS.TupSets
import HandS.SortOrd
import PySem.Challenge.RW_restlesshelf_k64_whole_trees
import KE.GoesEnum
import KE.GoesZip
import HandS.Zip0
import HandS.Walk
import HandS.Ends
import KE.KNest
set_option linter.all false
namespace Rs
open Classical
/-! ### the marks of a test on a shelf -/
abbrev HabL := List (List (List Nat))
/-- where habit i of hs moves x when q is touched -/
def stp (hs : HabL) (i q x : Nat) : Nat := ((hs.getD i []).getD q []).getD x 0
/-- where the mark of (p, w) stands on shelf i -/
def mk (hs : HabL) (p : Nat) (w : List Nat) (i : Nat) : Nat := w.foldl (fun m q => stp hs i q m) (stp hs i p p)
theorem mk_nil (hs : HabL) (p i : Nat) : mk hs p [] i = stp hs i p p := rfl
theorem mk_snoc (hs : HabL) (p : Nat) (w : List Nat) (q i : Nat) : mk hs p (w ++ [q]) i = stp hs i q (mk hs p w i) := by
  simp [mk, List.foldl_append]
/-- the marks on the shelves of a group -/
def marks (hs : HabL) (g : List Nat) (p : Nat) (w : List Nat) : List Nat := g.map (mk hs p w)
/-- one more touch -/
def mv (hs : HabL) : List Nat → Nat → List Nat → List Nat
  | i :: g, q, x :: m => stp hs i q x :: mv hs g q m
  | _, _, _ => []
theorem mv_marks (hs : HabL) (p : Nat) (w : List Nat) (q : Nat) : ∀ g : List Nat, mv hs g q (marks hs g p w) = marks hs g p (w ++ [q])
  | [] => rfl
  | i :: g => by
    show stp hs i q (mk hs p w i) :: mv hs g q (marks hs g p w) = mk hs p (w ++ [q]) i :: marks hs g p (w ++ [q])
    rw [mv_marks hs p w q g, mk_snoc]
theorem marks_length (hs : HabL) (g : List Nat) (p : Nat) (w : List Nat) : (marks hs g p w).length = g.length := by
  unfold marks
  exact List.length_map _
/-- the places of a group at which marks stand at r -/
def part : List Nat → List Nat → Nat → List Nat
  | i :: g, x :: m, r => if x = r then i :: part g m r else part g m r
  | _, _, _ => []
/-! ### tests -/
structure Ts where
  p : Nat
  w : List Nat
  r : Nat
def Ts.ok (lot : List Nat) (t : Ts) : Prop := t.p ∈ lot ∧ (∀ q ∈ t.w, q ∈ lot) ∧ t.r ∈ lot
def rd (hs : HabL) (t : Ts) (i : Nat) : Bool := decide (mk hs t.p t.w i = t.r)
def yes (hs : HabL) (g : List Nat) (t : Ts) : List Nat := g.filter (rd hs t)
def no (hs : HabL) (g : List Nat) (t : Ts) : List Nat := g.filter fun i => !rd hs t i
/-- those of g that are not in s -/
def rst (g s : List Nat) : List Nat := g.filter fun i => !decide (i ∈ s)
theorem part_marks (hs : HabL) (t : Ts) : ∀ g : List Nat, part g (marks hs g t.p t.w) t.r = yes hs g t
  | [] => rfl
  | i :: g => by
    show (if mk hs t.p t.w i = t.r then i :: part g (marks hs g t.p t.w) t.r else part g (marks hs g t.p t.w) t.r) = (i :: g).filter (rd hs t)
    rw [part_marks hs t g]
    by_cases e : mk hs t.p t.w i = t.r
    · rw [if_pos e, List.filter_cons_of_pos (by unfold rd; exact decide_eq_true e)]
      rfl
    · rw [if_neg e, List.filter_cons_of_neg (by unfold rd; rw [decide_eq_false e]; exact Bool.false_ne_true)]
      rfl
theorem rst_yes (hs : HabL) (g : List Nat) (t : Ts) : rst g (yes hs g t) = no hs g t := by
  unfold rst no yes
  refine List.filter_congr fun i hi => ?_
  congr 1
  by_cases e : rd hs t i = true
  · rw [e]
    exact decide_eq_true (List.mem_filter.mpr ⟨hi, e⟩)
  · rw [Bool.eq_false_iff.mpr e]
    exact decide_eq_false fun z => e (List.mem_filter.mp z).2
theorem yes_no_length (hs : HabL) (t : Ts) : ∀ g : List Nat, (yes hs g t).length + (no hs g t).length = g.length
  | [] => rfl
  | i :: g => by
    have ih := yes_no_length hs t g
    unfold yes no at ih ⊢
    by_cases e : rd hs t i = true
    · rw [List.filter_cons_of_pos e, List.filter_cons_of_neg (by rw [e]; decide), List.length_cons, List.length_cons]
      omega
    · rw [List.filter_cons_of_neg e, List.filter_cons_of_pos (by rw [Bool.eq_false_iff.mpr e]; rfl), List.length_cons, List.length_cons]
      omega
/-- a test of the lot that reads the mark on some and not on all shelves of g -/
def Prp (hs : HabL) (lot g : List Nat) (t : Ts) : Prop := t.ok lot ∧ yes hs g t ≠ [] ∧ no hs g t ≠ []
theorem len_pos {l : List Nat} (h : l ≠ []) : 0 < l.length := by
  cases l with
  | nil => exact absurd rfl h
  | cons _ _ => exact Nat.succ_pos _
theorem ne_of_len {l : List Nat} (h : 0 < l.length) : l ≠ [] := fun e => by rw [e] at h; exact absurd h (Nat.lt_irrefl _)
theorem Prp.yes_lt {hs : HabL} {lot g : List Nat} {t : Ts} (h : Prp hs lot g t) : (yes hs g t).length < g.length := by
  have a := yes_no_length hs t g
  have b := len_pos h.2.2
  omega
theorem Prp.no_lt {hs : HabL} {lot g : List Nat} {t : Ts} (h : Prp hs lot g t) : (no hs g t).length < g.length := by
  have a := yes_no_length hs t g
  have b := len_pos h.2.1
  omega
theorem prp_of {hs : HabL} {lot g : List Nat} {t : Ts} (ok : t.ok lot) (h0 : 0 < (yes hs g t).length) (h1 : (yes hs g t).length < g.length) : Prp hs lot g t := by
  have a := yes_no_length hs t g
  exact ⟨ok, ne_of_len h0, ne_of_len (by omega)⟩
theorem yes_sub (hs : HabL) (g : List Nat) (t : Ts) : (yes hs g t).Sublist g := List.filter_sublist
theorem no_sub (hs : HabL) (g : List Nat) (t : Ts) : (no hs g t).Sublist g := List.filter_sublist
theorem rst_sub (g s : List Nat) : (rst g s).Sublist g := List.filter_sublist
theorem no_nil {hs : HabL} {lot : List Nat} {t : Ts} : ¬ Prp hs lot [] t := fun h => h.2.1 rfl

/-! ### the least number -/
theorem least_ex {P : Nat → Prop} (h : ∃ n, P n) : ∃ n, P n ∧ ∀ k, P k → n ≤ k := by
  obtain ⟨n, hn⟩ := h
  induction n using Nat.strongRecOn with
  | ind n ih =>
    by_cases e : ∃ k, k < n ∧ P k
    · obtain ⟨k, hk, pk⟩ := e
      exact ih k hk pk
    · exact ⟨n, hn, fun k pk => Nat.le_of_not_lt fun z => e ⟨k, z, pk⟩⟩
noncomputable def mn (P : Nat → Prop) : Nat := if h : ∃ n, P n then (least_ex h).choose else 0
theorem mn_of {P : Nat → Prop} {v : Nat} (h : P v) (m : ∀ k, P k → v ≤ k) : mn P = v := by
  have e : ∃ n, P n := ⟨v, h⟩
  unfold mn
  rw [dif_pos e]
  obtain ⟨a, b⟩ := (least_ex e).choose_spec
  exact Nat.le_antisymm (b v h) (m _ a)
theorem mn_no {P : Nat → Prop} (h : ¬ ∃ n, P n) : mn P = 0 := by
  unfold mn
  rw [dif_neg h]
noncomputable def lwF (hs : HabL) (lot : List Nat) : Nat → List Nat → Nat
  | 0, _ => 0
  | k + 1, g => mn fun v => ∃ t, Prp hs lot g t ∧ v = t.w.length + 2 + max (lwF hs lot k (yes hs g t)) (lwF hs lot k (no hs g t))
theorem mn_congr {P Q : Nat → Prop} (h : ∀ v, P v ↔ Q v) : mn P = mn Q := by
  have e : P = Q := funext fun v => propext (h v)
  rw [e]
theorem lwF_eq (hs : HabL) (lot : List Nat) : ∀ (k j : Nat) (g : List Nat), g.length ≤ k → g.length ≤ j → lwF hs lot k g = lwF hs lot j g
  | 0, 0, _, _, _ => rfl
  | 0, j + 1, g, h, _ => by
    have e : g = [] := List.eq_nil_of_length_eq_zero (by omega)
    subst e
    exact (mn_no (P := fun v => ∃ t, Prp hs lot [] t ∧ v = t.w.length + 2 + max (lwF hs lot j (yes hs [] t)) (lwF hs lot j (no hs [] t))) fun ⟨_, _, h, _⟩ => no_nil h).symm
  | k + 1, 0, g, _, h => by
    have e : g = [] := List.eq_nil_of_length_eq_zero (by omega)
    subst e
    exact mn_no fun ⟨v, t, h, _⟩ => no_nil h
  | k + 1, j + 1, g, h1, h2 => by
    refine mn_congr fun v => exists_congr fun t => and_congr_right fun h => ?_
    have a := h.yes_lt
    have b := h.no_lt
    rw [lwF_eq hs lot k j (yes hs g t) (by omega) (by omega), lwF_eq hs lot k j (no hs g t) (by omega) (by omega)]
/-- the least worst number of touches for a group -/
noncomputable def lw (hs : HabL) (lot g : List Nat) : Nat := lwF hs lot g.length g
/-- what a test costs at a group -/
noncomputable def cst (hs : HabL) (lot g : List Nat) (t : Ts) : Nat := t.w.length + 2 + max (lw hs lot (yes hs g t)) (lw hs lot (no hs g t))
theorem lw_eq (hs : HabL) (lot g : List Nat) : lw hs lot g = mn fun v => ∃ t, Prp hs lot g t ∧ v = cst hs lot g t := by
  have e : lw hs lot g = lwF hs lot (g.length + 1) g := lwF_eq hs lot _ _ g (Nat.le_refl _) (Nat.le_succ _)
  rw [e]
  refine mn_congr fun v => exists_congr fun t => and_congr_right fun h => ?_
  have a := h.yes_lt
  have b := h.no_lt
  unfold cst lw
  rw [lwF_eq hs lot g.length _ (yes hs g t) (by omega) (Nat.le_refl _), lwF_eq hs lot g.length _ (no hs g t) (by omega) (Nat.le_refl _)]
theorem lw_none {hs : HabL} {lot g : List Nat} (h : ¬ ∃ t, Prp hs lot g t) : lw hs lot g = 0 := by
  rw [lw_eq]
  exact mn_no fun ⟨v, t, p, _⟩ => h ⟨t, p⟩
theorem lw_is {hs : HabL} {lot g : List Nat} {v : Nat} (h : ∃ t, Prp hs lot g t ∧ v = cst hs lot g t) (m : ∀ t, Prp hs lot g t → v ≤ cst hs lot g t) : lw hs lot g = v := by
  rw [lw_eq]
  exact mn_of h fun k ⟨t, p, e⟩ => by rw [e]; exact m t p

/-! ### trees -/
inductive T where
  | left (g : List Nat)
  | test (t : Ts) (a b : T)
def T.isTest : T → Bool
  | .left _ => false
  | .test _ _ _ => true
noncomputable def wv (hs : HabL) (lot : List Nat) : List Nat → T → Option Nat
  | g, .left g' => if g' = g ∧ ¬ ∃ t, Prp hs lot g t then some 0 else none
  | g, .test t a b => if Prp hs lot g t then (match wv hs lot (yes hs g t) a, wv hs lot (no hs g t) b with
    | some x, some y => some (t.w.length + 2 + max x y)
    | _, _ => none) else none
theorem wv_left {hs : HabL} {lot g : List Nat} (h : ¬ ∃ t, Prp hs lot g t) : wv hs lot g (.left g) = some 0 := if_pos ⟨rfl, h⟩
theorem wv_left_no {hs : HabL} {lot g g' : List Nat} (h : ¬ (g' = g ∧ ¬ ∃ t, Prp hs lot g t)) : wv hs lot g (.left g') = none := if_neg h
theorem wv_test {hs : HabL} {lot g : List Nat} {t : Ts} {a b : T} {x y : Nat} (h : Prp hs lot g t) (ha : wv hs lot (yes hs g t) a = some x) (hb : wv hs lot (no hs g t) b = some y) :
    wv hs lot g (.test t a b) = some (t.w.length + 2 + max x y) := by
  show (if Prp hs lot g t then _ else _) = _
  rw [if_pos h, ha, hb]
theorem wv_test_no {hs : HabL} {lot g : List Nat} {t : Ts} {a b : T} (h : ¬ Prp hs lot g t) : wv hs lot g (.test t a b) = none := if_neg h
theorem wv_test_na {hs : HabL} {lot g : List Nat} {t : Ts} {a b : T} (ha : wv hs lot (yes hs g t) a = none) : wv hs lot g (.test t a b) = none := by
  show (if Prp hs lot g t then _ else _) = _
  by_cases h : Prp hs lot g t
  · rw [if_pos h, ha]
  · rw [if_neg h]
theorem wv_test_nb {hs : HabL} {lot g : List Nat} {t : Ts} {a b : T} (hb : wv hs lot (no hs g t) b = none) : wv hs lot g (.test t a b) = none := by
  show (if Prp hs lot g t then _ else _) = _
  by_cases h : Prp hs lot g t
  · rw [if_pos h, hb]
    split
    · rename_i e; cases e
    · rfl
  · rw [if_neg h]
theorem wv_test_some {hs : HabL} {lot g : List Nat} {t : Ts} {a b : T} {v : Nat} (h : wv hs lot g (.test t a b) = some v) :
    Prp hs lot g t ∧ ∃ x y, wv hs lot (yes hs g t) a = some x ∧ wv hs lot (no hs g t) b = some y ∧ v = t.w.length + 2 + max x y := by
  by_cases p : Prp hs lot g t
  · refine ⟨p, ?_⟩
    cases ha : wv hs lot (yes hs g t) a with
    | none =>
      rw [wv_test_na ha] at h
      cases h
    | some x =>
      cases hb : wv hs lot (no hs g t) b with
      | none =>
        rw [wv_test_nb hb] at h
        cases h
      | some y =>
        rw [wv_test p ha hb] at h
        exact ⟨x, y, rfl, rfl, (Option.some.inj h).symm⟩
  · rw [wv_test_no p] at h
    cases h
theorem wv_left_some {hs : HabL} {lot g g' : List Nat} {v : Nat} (h : wv hs lot g (.left g') = some v) : g' = g ∧ (¬ ∃ t, Prp hs lot g t) ∧ v = 0 := by
  by_cases p : g' = g ∧ ¬ ∃ t, Prp hs lot g t
  · have e : wv hs lot g (.left g') = some 0 := if_pos p
    rw [e] at h
    exact ⟨p.1, p.2, (Option.some.inj h).symm⟩
  · rw [wv_left_no p] at h
    cases h

/-! ### association lists -/
section
variable {α β : Type}
def lk (D : List (List Nat × β)) (k : List Nat) : Option β := (D.find? fun e => decide (e.1 = k)).map (·.2)
def pt (D : List (List Nat × β)) (k : List Nat) (v : β) : List (List Nat × β) :=
  if k ∈ D.map (·.1) then D.map (fun e => if e.1 = k then (e.1, v) else e) else D ++ [(k, v)]
abbrev keys (D : List (List Nat × β)) : List (List Nat) := D.map (·.1)
theorem lk_some {D : List (List Nat × β)} {k : List Nat} {v : β} (h : lk D k = some v) : (k, v) ∈ D := by
  unfold lk at h
  cases e : D.find? fun e => decide (e.1 = k) with
  | none => rw [e] at h; cases h
  | some p =>
    rw [e] at h
    have h1 := List.mem_of_find?_eq_some e
    have h2 : p.1 = k := of_decide_eq_true (List.find?_some (p := fun e : List Nat × β => decide (e.1 = k)) e)
    have h3 : p.2 = v := Option.some.inj h
    rw [← h2, ← h3]
    exact h1
theorem lk_none {D : List (List Nat × β)} {k : List Nat} (h : lk D k = none) : k ∉ keys D := fun hm => by
  obtain ⟨p, hp, e⟩ := List.mem_map.mp hm
  unfold lk at h
  cases q : D.find? fun e => decide (e.1 = k) with
  | none => exact absurd (decide_eq_true e) (List.find?_eq_none.mp q p hp)
  | some r => rw [q] at h; cases h
theorem lk_of_mem {D : List (List Nat × β)} {k : List Nat} (h : k ∈ keys D) : ∃ v, lk D k = some v := by
  cases e : lk D k with
  | none => exact absurd h (lk_none e)
  | some v => exact ⟨v, rfl⟩
theorem nodup_at {D : List (List Nat × β)} (hn : (keys D).Nodup) {k : List Nat} {v v' : β} (h : (k, v) ∈ D) (h' : (k, v') ∈ D) : v = v' := by
  induction D with
  | nil => cases h
  | cons p D ih =>
    have hn' : (p.1 :: keys D).Nodup := hn
    obtain ⟨n1, n2⟩ := List.nodup_cons.mp hn'
    rcases List.mem_cons.mp h with e | h
    · rcases List.mem_cons.mp h' with e' | h'
      · rw [← e'] at e
        exact (Prod.mk.inj e).2
      · exact absurd (List.mem_map.mpr ⟨_, h', by rw [← e]⟩) n1
    · rcases List.mem_cons.mp h' with e' | h'
      · exact absurd (List.mem_map.mpr ⟨_, h, by rw [← e']⟩) n1
      · exact ih n2 h h'
theorem lk_mem {D : List (List Nat × β)} (hn : (keys D).Nodup) {k : List Nat} {v : β} (h : (k, v) ∈ D) : lk D k = some v := by
  obtain ⟨v', e⟩ := lk_of_mem (List.mem_map.mpr ⟨_, h, rfl⟩ : k ∈ keys D)
  rw [e, nodup_at hn h (lk_some e)]
theorem pt_new {D : List (List Nat × β)} {k : List Nat} {v : β} (h : k ∉ keys D) : pt D k v = D ++ [(k, v)] := if_neg h
theorem pt_old {D : List (List Nat × β)} {k : List Nat} {v : β} (h : k ∈ keys D) : pt D k v = D.map (fun e => if e.1 = k then (e.1, v) else e) := if_pos h
theorem keys_pt_old {D : List (List Nat × β)} {k : List Nat} {v : β} (h : k ∈ keys D) : keys (pt D k v) = keys D := by
  rw [pt_old h]
  unfold keys
  rw [List.map_map]
  refine List.map_congr_left fun e _ => ?_
  show (if e.1 = k then (e.1, v) else e).1 = e.1
  split <;> rfl
theorem nodup_snoc {l : List (List Nat)} {k : List Nat} (h : l.Nodup) (hk : k ∉ l) : (l ++ [k]).Nodup :=
  List.nodup_append.mpr ⟨h, List.nodup_cons.mpr ⟨List.not_mem_nil, List.nodup_nil⟩, fun a ha b hb e => hk (by rw [List.mem_singleton.mp hb] at e; rw [← e]; exact ha)⟩
theorem keys_snoc (D : List (List Nat × β)) (k : List Nat) (v : β) : keys (D ++ [(k, v)]) = keys D ++ [k] := by
  unfold keys
  rw [List.map_append]
  rfl
theorem nodup_pt {D : List (List Nat × β)} {k : List Nat} {v : β} (hn : (keys D).Nodup) : (keys (pt D k v)).Nodup := by
  by_cases h : k ∈ keys D
  · rw [keys_pt_old h]
    exact hn
  · rw [pt_new h, keys_snoc]
    exact nodup_snoc hn h
theorem mem_pt {D : List (List Nat × β)} {k : List Nat} {v : β} {e : List Nat × β} (h : e ∈ pt D k v) : e = (k, v) ∨ (e ∈ D ∧ e.1 ≠ k) := by
  by_cases hk : k ∈ keys D
  · rw [pt_old hk] at h
    obtain ⟨x, hx, q⟩ := List.mem_map.mp h
    by_cases ex : x.1 = k
    · rw [if_pos ex] at q
      left
      rw [← q, ex]
    · rw [if_neg ex] at q
      right
      rw [← q]
      exact ⟨hx, ex⟩
  · rw [pt_new hk] at h
    rcases List.mem_append.mp h with h | h
    · right
      exact ⟨h, fun z => hk (List.mem_map.mpr ⟨e, h, z⟩)⟩
    · left
      exact List.mem_singleton.mp h
theorem pt_mem {D : List (List Nat × β)} {k : List Nat} {v : β} : (k, v) ∈ pt D k v := by
  by_cases hk : k ∈ keys D
  · rw [pt_old hk]
    obtain ⟨x, hx, q⟩ := List.mem_map.mp hk
    exact List.mem_map.mpr ⟨x, hx, by rw [if_pos q, q]⟩
  · rw [pt_new hk]
    exact List.mem_append_right _ List.mem_cons_self
theorem pt_keep {D : List (List Nat × β)} {k : List Nat} {v : β} {e : List Nat × β} (h : e ∈ D) (hk : e.1 ≠ k) : e ∈ pt D k v := by
  by_cases hm : k ∈ keys D
  · rw [pt_old hm]
    exact List.mem_map.mpr ⟨e, h, if_neg hk⟩
  · rw [pt_new hm]
    exact List.mem_append_left _ h
theorem pt_length (D : List (List Nat × β)) (k : List Nat) (v : β) : (pt D k v).length ≤ D.length + 1 := by
  by_cases hm : k ∈ keys D
  · rw [pt_old hm, List.length_map]
    exact Nat.le_succ _
  · rw [pt_new hm, List.length_append]
    exact Nat.le_refl _
end

/-! ### how many -/
theorem nodup_le {α : Type} [DecidableEq α] : ∀ {l L : List α}, l.Nodup → (∀ x ∈ l, x ∈ L) → l.length ≤ L.length
  | [], _, _, _ => Nat.zero_le _
  | x :: l, L, hn, h => by
    obtain ⟨h1, h2⟩ := List.nodup_cons.mp hn
    have hx := h x List.mem_cons_self
    have ih := nodup_le (L := L.erase x) h2 fun y hy => (List.mem_erase_of_ne (fun z => h1 (by rw [← z]; exact hy))).mpr (h y (List.mem_cons_of_mem _ hy))
    have e := List.length_erase_of_mem hx
    have p : 0 < L.length := List.length_pos_of_mem hx
    rw [List.length_cons]
    omega
/-- all lists of n numbers below k -/
def allL (k : Nat) : Nat → List (List Nat)
  | 0 => [[]]
  | n + 1 => (allL k n).flatMap fun l => (List.range k).map fun x => x :: l
theorem mem_allL {k : Nat} : ∀ {n : Nat} {l : List Nat}, l.length = n → (∀ x ∈ l, x < k) → l ∈ allL k n
  | 0, l, h, _ => by
    rw [List.eq_nil_of_length_eq_zero h]
    exact List.mem_cons_self
  | n + 1, [], h, _ => by cases h
  | n + 1, x :: l, h, hx => by
    refine List.mem_flatMap.mpr ⟨l, mem_allL (Nat.succ.inj h) fun y hy => hx y (List.mem_cons_of_mem _ hy), ?_⟩
    exact List.mem_map.mpr ⟨x, List.mem_range.mpr (hx x List.mem_cons_self), rfl⟩
theorem allL_length (k : Nat) : ∀ n : Nat, (allL k n).length = k ^ n
  | 0 => rfl
  | n + 1 => by
    have e : ∀ L : List (List Nat), (L.flatMap fun l => (List.range k).map fun x => x :: l).length = L.length * k := by
      intro L
      induction L with
      | nil => simp
      | cons a L ih =>
        rw [List.flatMap_cons, List.length_append, List.length_map, List.length_range, ih, List.length_cons, Nat.succ_mul]
        exact Nat.add_comm _ _
    show ((allL k n).flatMap _).length = _
    rw [e, allL_length k n, Nat.pow_succ]
/-- all groups -/
def subs : List Nat → List (List Nat)
  | [] => [[]]
  | x :: l => subs l ++ (subs l).map (x :: ·)
theorem mem_subs {s l : List Nat} (h : s.Sublist l) : s ∈ subs l := by
  induction h with
  | slnil => exact List.mem_cons_self
  | cons a _ ih => exact List.mem_append_left _ ih
  | cons_cons a _ ih => exact List.mem_append_right _ (List.mem_map.mpr ⟨_, ih, rfl⟩)
theorem subs_length : ∀ l : List Nat, (subs l).length = 2 ^ l.length
  | [] => rfl
  | x :: l => by
    show (subs l ++ (subs l).map (x :: ·)).length = _
    rw [List.length_append, List.length_map, subs_length l, List.length_cons, Nat.pow_succ]
    omega
theorem few_subs {D : List (List Nat)} {g : List Nat} (hn : D.Nodup) (h : ∀ s ∈ D, s.Sublist g) (hg : g.length ≤ 5) : D.length ≤ 32 := by
  have a := nodup_le hn fun s hs => mem_subs (h s hs)
  rw [subs_length] at a
  have b : 2 ^ g.length ≤ 2 ^ 5 := Nat.pow_le_pow_right (by decide) hg
  omega
theorem few_marks {D : List (List Nat)} {k n : Nat} (hn : D.Nodup) (h : ∀ m ∈ D, m.length = n ∧ ∀ x ∈ m, x < k) (hk : k ≤ 5) (h5 : n ≤ 5) : D.length ≤ 3125 := by
  have a := nodup_le hn fun s hs => mem_allL (h s hs).1 (h s hs).2
  rw [allL_length] at a
  have b : k ^ n ≤ 5 ^ n := Nat.pow_le_pow_left hk n
  have c : 5 ^ n ≤ 5 ^ 5 := Nat.pow_le_pow_right (by decide) h5
  omega
end Rs


set_option linter.all false
namespace Rs
open Classical
/-! ### the setting -/
structure Good (hs : HabL) (pl : Nat) (lot : List Nat) : Prop where
  p2 : 2 ≤ pl
  p5 : pl ≤ 5
  h1 : 1 ≤ hs.length
  h5 : hs.length ≤ 5
  hab : ∀ h ∈ hs, h.length = pl ∧ ∀ q ∈ h, q.length = pl ∧ q.Nodup ∧ ∀ x ∈ q, x < pl
  ne : lot ≠ []
  asc : lot.Pairwise (· < ·)
  lt : ∀ x ∈ lot, x < pl
/-- a group -/
def Grp (hs : HabL) (g : List Nat) : Prop := g.Sublist (List.range hs.length)
theorem Grp.len {hs : HabL} {g : List Nat} (h : Grp hs g) : g.length ≤ hs.length := by
  have a := h.length_le
  rw [List.length_range] at a
  exact a
theorem Grp.lt {hs : HabL} {g : List Nat} (h : Grp hs g) {i : Nat} (hi : i ∈ g) : i < hs.length := List.mem_range.mp (h.subset hi)
theorem Grp.nd {hs : HabL} {g : List Nat} (h : Grp hs g) : g.Nodup := h.nodup List.nodup_range
theorem Grp.sub {hs : HabL} {g g' : List Nat} (h : Grp hs g) (s : g'.Sublist g) : Grp hs g' := s.trans h
section
variable {hs : HabL} {pl : Nat} {lot : List Nat}
theorem stp_some (G : Good hs pl lot) {i q x : Nat} (hi : i < hs.length) (hq : q < pl) (hx : x < pl) :
    ∃ h r y, hs[i]? = some h ∧ h[q]? = some r ∧ r[x]? = some y ∧ stp hs i q x = y ∧ y < pl := by
  have a := G.hab hs[i] (List.getElem_mem hi)
  have hq' : q < (hs[i]).length := by rw [a.1]; exact hq
  have b := a.2 (hs[i])[q] (List.getElem_mem hq')
  have hx' : x < ((hs[i])[q]).length := by rw [b.1]; exact hx
  refine ⟨hs[i], (hs[i])[q], ((hs[i])[q])[x], List.getElem?_eq_getElem hi, List.getElem?_eq_getElem hq', List.getElem?_eq_getElem hx', ?_, b.2.2 _ (List.getElem_mem hx')⟩
  unfold stp
  simp [List.getD, List.getElem?_eq_getElem hi, List.getElem?_eq_getElem hq', List.getElem?_eq_getElem hx']
theorem stp_lt (G : Good hs pl lot) {i q x : Nat} (hi : i < hs.length) (hq : q < pl) (hx : x < pl) : stp hs i q x < pl := by
  obtain ⟨_, _, y, _, _, _, e, hy⟩ := stp_some G hi hq hx
  rw [e]
  exact hy
theorem fold_lt (G : Good hs pl lot) {i : Nat} (hi : i < hs.length) : ∀ {w : List Nat} {m : Nat}, (∀ q ∈ w, q ∈ lot) → m < pl → w.foldl (fun m q => stp hs i q m) m < pl
  | [], m, _, hm => hm
  | q :: w, m, hw, hm => fold_lt G hi (w := w) (fun x hx => hw x (List.mem_cons_of_mem _ hx)) (stp_lt G hi (G.lt _ (hw q List.mem_cons_self)) hm)
theorem mk_lt (G : Good hs pl lot) {i p : Nat} {w : List Nat} (hi : i < hs.length) (hp : p ∈ lot) (hw : ∀ q ∈ w, q ∈ lot) : mk hs p w i < pl :=
  fold_lt G hi hw (stp_lt G hi (G.lt _ hp) (G.lt _ hp))
theorem marks_lt (G : Good hs pl lot) {g : List Nat} (hg : Grp hs g) {p : Nat} {w : List Nat} (hp : p ∈ lot) (hw : ∀ q ∈ w, q ∈ lot) : ∀ x ∈ marks hs g p w, x < pl := fun x hx => by
  obtain ⟨i, hi, e⟩ := List.mem_map.mp hx
  rw [← e]
  exact mk_lt G (hg.lt hi) hp hw
/-- marks of some test -/
def IsM (hs : HabL) (lot g m : List Nat) : Prop := ∃ p w, p ∈ lot ∧ (∀ q ∈ w, q ∈ lot) ∧ m = marks hs g p w
theorem few_M (G : Good hs pl lot) {g : List Nat} (hg : Grp hs g) {D : List (List Nat)} (hn : D.Nodup) (h : ∀ m ∈ D, IsM hs lot g m) : D.length ≤ 3125 :=
  few_marks (k := pl) (n := g.length) hn (fun m hm => by
    obtain ⟨p, w, hp, hw, e⟩ := h m hm
    rw [e]
    exact ⟨marks_length _ _ _ _, marks_lt G hg hp hw⟩) G.p5 (Nat.le_trans hg.len G.h5)
end
theorem mem_snoc {l : List Nat} {S : List Nat} {q : Nat} (h : ∀ x ∈ l, x ∈ S) (hq : q ∈ S) : ∀ x ∈ l ++ [q], x ∈ S := fun x hx => by
  rcases List.mem_append.mp hx with hx | hx
  · exact h x hx
  · rw [List.mem_singleton.mp hx]
    exact hq
theorem take_snoc {α : Type} {l : List α} {i : Nat} {x : α} (h : l[i]? = some x) : l.take (i + 1) = l.take i ++ [x] := by
  obtain ⟨hi, e⟩ := List.getElem?_eq_some_iff.mp h
  rw [← e]
  exact List.take_succ_eq_append_getElem hi
theorem mem_take_snoc {α : Type} {l : List α} {i : Nat} {x y : α} (h : l[i]? = some x) (hy : y ∈ l.take (i + 1)) : y ∈ l.take i ∨ y = x := by
  rw [take_snoc h] at hy
  rcases List.mem_append.mp hy with z | z
  · exact .inl z
  · exact .inr (List.mem_singleton.mp z)
theorem snoc_of {l : List Nat} {n : Nat} (h : l.length = n + 1) : ∃ w q, l = w ++ [q] ∧ w.length = n := by
  have hne : l ≠ [] := fun e => by rw [e] at h; cases h
  refine ⟨l.dropLast, l.getLast hne, (List.dropLast_concat_getLast hne).symm, ?_⟩
  rw [List.length_dropLast, h]
  rfl
theorem part_snoc : ∀ {g m : List Nat} {r k i x : Nat}, g[k]? = some i → m[k]? = some x → part (g.take (k + 1)) (m.take (k + 1)) r = part (g.take k) (m.take k) r ++ (if x = r then [i] else [])
  | [], _, _, _, _, _, h, _ => by simp at h
  | _ :: _, [], _, _, _, _, _, h => by simp at h
  | j :: g, y :: m, r, 0, i, x, h, h' => by
    simp only [List.getElem?_cons_zero, Option.some.injEq] at h h'
    subst h h'
    show (if y = r then j :: part [] [] r else part [] [] r) = [] ++ (if y = r then [j] else [])
    split <;> rfl
  | j :: g, y :: m, r, k + 1, i, x, h, h' => by
    simp only [List.getElem?_cons_succ] at h h'
    have ih := part_snoc (r := r) h h'
    show (if y = r then j :: part (g.take (k + 1)) (m.take (k + 1)) r else part (g.take (k + 1)) (m.take (k + 1)) r) = (if y = r then j :: part (g.take k) (m.take k) r else part (g.take k) (m.take k) r) ++ _
    rw [ih]
    split <;> rfl
theorem mv_snoc (hs : HabL) : ∀ {g m : List Nat} {q k i x : Nat}, g[k]? = some i → m[k]? = some x → mv hs (g.take (k + 1)) q (m.take (k + 1)) = mv hs (g.take k) q (m.take k) ++ [stp hs i q x]
  | [], _, _, _, _, _, h, _ => by simp at h
  | _ :: _, [], _, _, _, _, _, h => by simp at h
  | j :: g, y :: m, q, 0, i, x, h, h' => by
    simp only [List.getElem?_cons_zero, Option.some.injEq] at h h'
    subst h h'
    rfl
  | j :: g, y :: m, q, k + 1, i, x, h, h' => by
    simp only [List.getElem?_cons_succ] at h h'
    have ih := mv_snoc hs (q := q) h h'
    show stp hs j q y :: mv hs (g.take (k + 1)) q (m.take (k + 1)) = stp hs j q y :: mv hs (g.take k) q (m.take k) ++ _
    rw [ih]
    rfl
section
variable (hs : HabL) (lot g : List Nat)
abbrev MD := List (List Nat × (Nat × List Nat))
abbrev FD := List (List Nat × Ts)
/-! ### marks_of -/
/-- behind i places of the first loop -/
structure MA (i : Nat) (D : MD) (L : List (List Nat)) : Prop where
  nd : (keys D).Nodup
  en : ∀ e ∈ D, e.2.1 ∈ lot ∧ e.2.2 = [] ∧ e.1 = marks hs g e.2.1 []
  la : L = keys D
  pr : ∀ p ∈ lot.take i, marks hs g p [] ∈ keys D
/-- ahead of the n-th layer -/
structure Lev (n : Nat) (D : MD) (L : List (List Nat)) : Prop where
  nd : (keys D).Nodup
  en : ∀ e ∈ D, e.2.1 ∈ lot ∧ (∀ q ∈ e.2.2, q ∈ lot) ∧ e.1 = marks hs g e.2.1 e.2.2 ∧ e.2.2.length ≤ n
  low : ∀ p ∈ lot, ∀ w : List Nat, (∀ q ∈ w, q ∈ lot) → w.length ≤ n → ∃ e ∈ D, e.1 = marks hs g p w ∧ e.2.2.length ≤ w.length
  lay : ∀ m ∈ L, ∃ e ∈ D, e.1 = m ∧ e.2.2.length = n
  lay' : ∀ e ∈ D, e.2.2.length = n → e.1 ∈ L
  cnt : L ≠ [] → n < D.length
/-- within a layer: j marks done, i touches of the next -/
structure In (n : Nat) (D0 : MD) (L : List (List Nat)) (j i : Nat) (D : MD) (X : List (List Nat)) : Prop where
  ex : ∃ E : MD, D = D0 ++ E ∧ X = keys E ∧ ∀ e ∈ E, e.2.1 ∈ lot ∧ (∀ q ∈ e.2.2, q ∈ lot) ∧ e.1 = marks hs g e.2.1 e.2.2 ∧ e.2.2.length = n + 1
  nd : (keys D).Nodup
  pr : ∀ m ∈ L.take j, ∀ q ∈ lot, mv hs g q m ∈ keys D
  pc : ∀ m, L[j]? = some m → ∀ q ∈ lot.take i, mv hs g q m ∈ keys D
/-- what marks_of hands back -/
structure MS (D : MD) : Prop where
  nd : (keys D).Nodup
  en : ∀ e ∈ D, e.2.1 ∈ lot ∧ (∀ q ∈ e.2.2, q ∈ lot) ∧ e.1 = marks hs g e.2.1 e.2.2
  all : ∀ p ∈ lot, ∀ w : List Nat, (∀ q ∈ w, q ∈ lot) → ∃ e ∈ D, e.1 = marks hs g p w ∧ e.2.2.length ≤ w.length
end
section
variable {hs : HabL} {lot g : List Nat}
theorem MA.start : MA hs lot g 0 [] [] := ⟨List.nodup_nil, fun _ h => (List.not_mem_nil h).elim, rfl, fun _ h => (List.not_mem_nil h).elim⟩
theorem MA.new {i p : Nat} {D : MD} {L : List (List Nat)} (M : MA hs lot g i D L) (hp : lot[i]? = some p) (hn : marks hs g p [] ∉ keys D) : MA hs lot g (i + 1) (pt D (marks hs g p []) (p, [])) (L ++ [marks hs g p []]) where
  nd := nodup_pt M.nd
  en := fun e he => by
    rcases mem_pt he with z | z
    · rw [z]
      exact ⟨List.mem_of_getElem? hp, rfl, rfl⟩
    · exact M.en e z.1
  la := by rw [pt_new hn, keys_snoc, M.la]
  pr := fun q hq => by
    rw [pt_new hn, keys_snoc]
    rcases mem_take_snoc hp hq with z | z
    · exact List.mem_append_left _ (M.pr q z)
    · rw [z]
      exact List.mem_append_right _ List.mem_cons_self
theorem MA.old {i p : Nat} {D : MD} {L : List (List Nat)} (M : MA hs lot g i D L) (hp : lot[i]? = some p) (hn : marks hs g p [] ∈ keys D) : MA hs lot g (i + 1) D L :=
  ⟨M.nd, M.en, M.la, fun q hq => by
    rcases mem_take_snoc hp hq with z | z
    · exact M.pr q z
    · rw [z]
      exact hn⟩
theorem MA.isM {i : Nat} {D : MD} {L : List (List Nat)} (M : MA hs lot g i D L) : ∀ m ∈ keys D, IsM hs lot g m := fun m hm => by
  obtain ⟨e, he, q⟩ := List.mem_map.mp hm
  obtain ⟨a, b, c⟩ := M.en e he
  exact ⟨e.2.1, [], a, fun _ h => (List.not_mem_nil h).elim, by rw [← q]; exact c⟩
theorem MA.lev {D : MD} {L : List (List Nat)} (M : MA hs lot g lot.length D L) : Lev hs lot g 0 D L where
  nd := M.nd
  en := fun e he => by
    obtain ⟨a, b, c⟩ := M.en e he
    rw [b]
    exact ⟨a, fun _ h => (List.not_mem_nil h).elim, c, Nat.le_refl _⟩
  low := fun p hp w hw hl => by
    have e : w = [] := List.eq_nil_of_length_eq_zero (Nat.le_zero.mp hl)
    subst e
    obtain ⟨e, he, q⟩ := List.mem_map.mp (M.pr p (by rw [List.take_length]; exact hp))
    exact ⟨e, he, q, by rw [(M.en e he).2.1]; exact Nat.le_refl _⟩
  lay := fun m hm => by
    rw [M.la] at hm
    obtain ⟨e, he, q⟩ := List.mem_map.mp hm
    exact ⟨e, he, q, by rw [(M.en e he).2.1]; rfl⟩
  lay' := fun e he _ => by
    rw [M.la]
    exact List.mem_map.mpr ⟨e, he, rfl⟩
  cnt := fun h => by
    cases D with
    | nil => exact absurd M.la h
    | cons _ _ => exact Nat.succ_pos _
theorem Lev.isM {n : Nat} {D : MD} {L : List (List Nat)} (M : Lev hs lot g n D L) : ∀ m ∈ keys D, IsM hs lot g m := fun m hm => by
  obtain ⟨e, he, q⟩ := List.mem_map.mp hm
  obtain ⟨a, b, c, _⟩ := M.en e he
  exact ⟨e.2.1, e.2.2, a, b, by rw [← q]; exact c⟩
theorem In.start {n : Nat} {D : MD} {L : List (List Nat)} (M : Lev hs lot g n D L) : In hs lot g n D L 0 0 D [] :=
  ⟨⟨[], (List.append_nil _).symm, rfl, fun _ h => (List.not_mem_nil h).elim⟩, M.nd, fun _ h => (List.not_mem_nil h).elim, fun _ _ _ h => (List.not_mem_nil h).elim⟩
theorem In.isM {n j i : Nat} {D0 D : MD} {L X : List (List Nat)} (M : Lev hs lot g n D0 L) (I : In hs lot g n D0 L j i D X) : ∀ m ∈ keys D, IsM hs lot g m := fun m hm => by
  obtain ⟨E, e1, _, he⟩ := I.ex
  obtain ⟨e, hd, q⟩ := List.mem_map.mp hm
  rw [e1] at hd
  rcases List.mem_append.mp hd with z | z
  · exact M.isM m (List.mem_map.mpr ⟨e, z, q⟩)
  · obtain ⟨a, b, c, _⟩ := he e z
    exact ⟨e.2.1, e.2.2, a, b, by rw [← q]; exact c⟩
/-- the entry of a mark of the layer -/
theorem In.at {n j i : Nat} {D0 D : MD} {L X : List (List Nat)} (M : Lev hs lot g n D0 L) (I : In hs lot g n D0 L j i D X) {m : List Nat} (hm : m ∈ L) :
    ∃ p w, lk D m = some (p, w) ∧ p ∈ lot ∧ (∀ q ∈ w, q ∈ lot) ∧ m = marks hs g p w ∧ w.length = n := by
  obtain ⟨E, e1, _, _⟩ := I.ex
  obtain ⟨e, he, q, hl⟩ := M.lay m hm
  obtain ⟨a, b, c, _⟩ := M.en e he
  refine ⟨e.2.1, e.2.2, lk_mem I.nd ?_, a, b, by rw [← q]; exact c, hl⟩
  rw [e1, ← q]
  exact List.mem_append_left _ he
theorem In.new {n j i q p : Nat} {w : List Nat} {D0 D : MD} {L X : List (List Nat)} {m : List Nat} (I : In hs lot g n D0 L j i D X) (hm : L[j]? = some m) (hq : lot[i]? = some q) (hp : p ∈ lot) (hw : ∀ q ∈ w, q ∈ lot) (em : m = marks hs g p w) (hl : w.length = n)
    (hn : mv hs g q m ∉ keys D) : In hs lot g n D0 L j (i + 1) (pt D (mv hs g q m) (p, w ++ [q])) (X ++ [mv hs g q m]) := by
  obtain ⟨E, e1, e2, he⟩ := I.ex
  have hql : q ∈ lot := List.mem_of_getElem? hq
  refine ⟨⟨E ++ [(mv hs g q m, (p, w ++ [q]))], ?_, ?_, fun e hE => ?_⟩, nodup_pt I.nd, fun m' hm' q' hq' => ?_, fun m' hm' q' hq' => ?_⟩
  · rw [pt_new hn, e1, List.append_assoc]
  · rw [keys_snoc, e2]
  · rcases List.mem_append.mp hE with z | z
    · exact he e z
    · rw [List.mem_singleton.mp z]
      refine ⟨hp, mem_snoc hw hql, ?_, by rw [List.length_append, hl]; rfl⟩
      show mv hs g q m = _
      rw [em, mv_marks]
  · rw [pt_new hn, keys_snoc]
    exact List.mem_append_left _ (I.pr m' hm' q' hq')
  · rw [pt_new hn, keys_snoc]
    rcases mem_take_snoc hq hq' with z | z
    · exact List.mem_append_left _ (I.pc m' hm' q' z)
    · rw [hm] at hm'
      rw [z, Option.some.inj hm']
      exact List.mem_append_right _ List.mem_cons_self
theorem In.old {n j i q : Nat} {D0 D : MD} {L X : List (List Nat)} {m : List Nat} (I : In hs lot g n D0 L j i D X) (hm : L[j]? = some m) (hq : lot[i]? = some q) (hn : mv hs g q m ∈ keys D) : In hs lot g n D0 L j (i + 1) D X :=
  ⟨I.ex, I.nd, I.pr, fun m' hm' q' hq' => by
    rcases mem_take_snoc hq hq' with z | z
    · exact I.pc m' hm' q' z
    · rw [hm] at hm'
      rw [z, ← Option.some.inj hm']
      exact hn⟩
theorem In.row {n j : Nat} {D0 D : MD} {L X : List (List Nat)} {m : List Nat} (I : In hs lot g n D0 L j lot.length D X) (hm : L[j]? = some m) : In hs lot g n D0 L (j + 1) 0 D X :=
  ⟨I.ex, I.nd, fun m' hm' q hq => by
    rcases mem_take_snoc hm hm' with z | z
    · exact I.pr m' z q hq
    · rw [z]
      exact I.pc m hm q (by rw [List.take_length]; exact hq), fun _ _ _ h => (List.not_mem_nil h).elim⟩
theorem In.length {n j i : Nat} {D0 D : MD} {L X : List (List Nat)} (I : In hs lot g n D0 L j i D X) : D.length = D0.length + X.length := by
  obtain ⟨E, e1, e2, _⟩ := I.ex
  rw [e1, e2, List.length_append, List.length_map]
theorem In.done {n : Nat} {D0 D : MD} {L X : List (List Nat)} (M : Lev hs lot g n D0 L) (hL : L ≠ []) (I : In hs lot g n D0 L L.length 0 D X) : Lev hs lot g (n + 1) D X := by
  obtain ⟨E, e1, e2, he⟩ := I.ex
  have in0 : ∀ e ∈ D0, e ∈ D := fun e h => by rw [e1]; exact List.mem_append_left _ h
  have pr : ∀ m ∈ L, ∀ q ∈ lot, mv hs g q m ∈ keys D := fun m hm => I.pr m (by rw [List.take_length]; exact hm)
  refine ⟨I.nd, fun e h => ?_, fun p hp w hw hl => ?_, fun m hm => ?_, fun e h hl => ?_, fun h => ?_⟩
  · rw [e1] at h
    rcases List.mem_append.mp h with z | z
    · obtain ⟨a, b, c, d⟩ := M.en e z
      exact ⟨a, b, c, Nat.le_succ_of_le d⟩
    · obtain ⟨a, b, c, d⟩ := he e z
      exact ⟨a, b, c, Nat.le_of_eq d⟩
  · rcases Nat.lt_or_ge n w.length with hlt | hge
    · obtain ⟨w0, q, ew, hl0⟩ := snoc_of (l := w) (n := n) (by omega)
      subst ew
      have hw0 : ∀ x ∈ w0, x ∈ lot := fun x hx => hw x (List.mem_append_left _ hx)
      have hq : q ∈ lot := hw q (List.mem_append_right _ List.mem_cons_self)
      obtain ⟨e, hd, em, hle⟩ := M.low p hp w0 hw0 (Nat.le_of_eq hl0)
      obtain ⟨a, b, c, d⟩ := M.en e hd
      have same : marks hs g p (w0 ++ [q]) = marks hs g e.2.1 (e.2.2 ++ [q]) := by rw [← mv_marks, ← mv_marks, ← em, c]
      rcases Nat.lt_or_ge e.2.2.length n with h1 | h1
      · obtain ⟨e', hd', em', hl'⟩ := M.low e.2.1 a (e.2.2 ++ [q]) (mem_snoc b hq) (by rw [List.length_append]; exact h1)
        refine ⟨e', in0 e' hd', by rw [em', same], ?_⟩
        rw [List.length_append] at hl' ⊢
        omega
      · have hmL := M.lay' e hd (Nat.le_antisymm d h1)
        obtain ⟨e', hd', q'⟩ := List.mem_map.mp (pr e.1 hmL q hq)
        refine ⟨e', hd', ?_, ?_⟩
        · rw [q', em, mv_marks]
        · rw [e1] at hd'
          rw [List.length_append]
          rcases List.mem_append.mp hd' with z | z
          · have := (M.en e' z).2.2.2
            omega
          · have := (he e' z).2.2.2
            show _ ≤ w0.length + 1
            omega
    · obtain ⟨e, hd, em, hle⟩ := M.low p hp w hw hge
      exact ⟨e, in0 e hd, em, hle⟩
  · rw [e2] at hm
    obtain ⟨e, hE, q⟩ := List.mem_map.mp hm
    exact ⟨e, by rw [e1]; exact List.mem_append_right _ hE, q, (he e hE).2.2.2⟩
  · rw [e1] at h
    rcases List.mem_append.mp h with z | z
    · have := (M.en e z).2.2.2
      omega
    · rw [e2]
      exact List.mem_map.mpr ⟨e, z, rfl⟩
  · have a := I.length
    have b := M.cnt hL
    have c := len_pos' h
    omega
where
  len_pos' {l : List (List Nat)} (h : l ≠ []) : 0 < l.length := by
    cases l with
    | nil => exact absurd rfl h
    | cons _ _ => exact Nat.succ_pos _
theorem Lev.fin {n : Nat} {D : MD} (M : Lev hs lot g n D []) : MS hs lot g D := by
  refine ⟨M.nd, fun e he => ⟨(M.en e he).1, (M.en e he).2.1, (M.en e he).2.2.1⟩, fun p hp => ?_⟩
  have key : ∀ k : Nat, ∀ w : List Nat, w.length = k → (∀ q ∈ w, q ∈ lot) → ∃ e ∈ D, e.1 = marks hs g p w ∧ e.2.2.length ≤ w.length := by
    intro k
    induction k with
    | zero => exact fun w hl hw => M.low p hp w hw (by omega)
    | succ k ih =>
      intro w hl hw
      obtain ⟨w0, q, ew, hl0⟩ := snoc_of hl
      subst ew
      have hw0 : ∀ x ∈ w0, x ∈ lot := fun x hx => hw x (List.mem_append_left _ hx)
      have hq : q ∈ lot := hw q (List.mem_append_right _ List.mem_cons_self)
      obtain ⟨e, hd, em, hle⟩ := ih w0 hl0 hw0
      obtain ⟨a, b, c, d⟩ := M.en e hd
      have same : marks hs g p (w0 ++ [q]) = marks hs g e.2.1 (e.2.2 ++ [q]) := by rw [← mv_marks, ← mv_marks, ← em, c]
      have h1 : e.2.2.length < n := by
        rcases Nat.lt_or_ge e.2.2.length n with z | z
        · exact z
        · exact absurd (M.lay' e hd (Nat.le_antisymm d z)) List.not_mem_nil
      obtain ⟨e', hd', em', hl'⟩ := M.low e.2.1 a (e.2.2 ++ [q]) (mem_snoc b hq) (by rw [List.length_append]; exact h1)
      refine ⟨e', hd', by rw [em', same], ?_⟩
      rw [List.length_append] at hl' ⊢
      have : ([q] : List Nat).length = 1 := rfl
      omega
  exact fun w hw => key w.length w rfl hw
end

/-! ### partings -/
section
variable (hs : HabL) (lot g : List Nat) (D : MD)
structure Pr (j i : Nat) (F : FD) : Prop where
  nd : (keys F).Nodup
  en : ∀ f ∈ F, Prp hs lot g f.2 ∧ f.1 = yes hs g f.2
  pr : ∀ e ∈ D.take j, ∀ r ∈ lot, Prp hs lot g ⟨e.2.1, e.2.2, r⟩ → ∃ f ∈ F, f.1 = yes hs g ⟨e.2.1, e.2.2, r⟩ ∧ f.2.w.length ≤ e.2.2.length
  pc : ∀ e, D[j]? = some e → ∀ r ∈ lot.take i, Prp hs lot g ⟨e.2.1, e.2.2, r⟩ → ∃ f ∈ F, f.1 = yes hs g ⟨e.2.1, e.2.2, r⟩ ∧ f.2.w.length ≤ e.2.2.length
structure PS (F : FD) : Prop where
  nd : (keys F).Nodup
  en : ∀ f ∈ F, Prp hs lot g f.2 ∧ f.1 = yes hs g f.2
  all : ∀ t, Prp hs lot g t → ∃ f ∈ F, f.1 = yes hs g t ∧ f.2.w.length ≤ t.w.length
end
section
variable {hs : HabL} {lot g : List Nat} {D : MD}
theorem Pr.start : Pr hs lot g D 0 0 [] := ⟨List.nodup_nil, fun _ h => (List.not_mem_nil h).elim, fun _ h => (List.not_mem_nil h).elim, fun _ _ _ h => (List.not_mem_nil h).elim⟩
theorem Pr.put {j i r : Nat} {F : FD} {e : List Nat × (Nat × List Nat)} (P : Pr hs lot g D j i F) (he : D[j]? = some e) (hr : lot[i]? = some r) (hp : Prp hs lot g ⟨e.2.1, e.2.2, r⟩)
    (ho : yes hs g ⟨e.2.1, e.2.2, r⟩ ∉ keys F ∨ ∃ o, lk F (yes hs g ⟨e.2.1, e.2.2, r⟩) = some o ∧ e.2.2.length < o.w.length) : Pr hs lot g D j (i + 1) (pt F (yes hs g ⟨e.2.1, e.2.2, r⟩) ⟨e.2.1, e.2.2, r⟩) := by
  have keep : ∀ (S : List Nat) (n : Nat), (∃ f ∈ F, f.1 = S ∧ f.2.w.length ≤ n) → ∃ f ∈ pt F (yes hs g ⟨e.2.1, e.2.2, r⟩) ⟨e.2.1, e.2.2, r⟩, f.1 = S ∧ f.2.w.length ≤ n := by
    rintro S n ⟨f, hf, q, hl⟩
    by_cases eS : f.1 = yes hs g ⟨e.2.1, e.2.2, r⟩
    · refine ⟨_, pt_mem, by rw [← q, eS], ?_⟩
      rcases ho with z | ⟨o, ho, hlt⟩
      · exact absurd (List.mem_map.mpr ⟨f, hf, eS⟩) z
      · have : f.2 = o := nodup_at P.nd (k := f.1) hf (by rw [eS]; exact lk_some ho)
        show e.2.2.length ≤ n
        rw [this] at hl
        omega
    · exact ⟨f, pt_keep hf eS, q, hl⟩
  refine ⟨nodup_pt P.nd, fun f hf => ?_, fun e' he' r' hr' hp' => keep _ _ (P.pr e' he' r' hr' hp'), fun e' he' r' hr' hp' => ?_⟩
  · rcases mem_pt hf with z | z
    · rw [z]
      exact ⟨hp, rfl⟩
    · exact P.en f z.1
  · rcases mem_take_snoc hr hr' with z | z
    · exact keep _ _ (P.pc e' he' r' z hp')
    · rw [he] at he'
      have e2 := Option.some.inj he'
      subst e2 z
      exact ⟨_, pt_mem, rfl, Nat.le_refl _⟩
theorem Pr.skip {j i r : Nat} {F : FD} {e : List Nat × (Nat × List Nat)} (P : Pr hs lot g D j i F) (he : D[j]? = some e) (hr : lot[i]? = some r)
    (h : Prp hs lot g ⟨e.2.1, e.2.2, r⟩ → ∃ o, lk F (yes hs g ⟨e.2.1, e.2.2, r⟩) = some o ∧ o.w.length ≤ e.2.2.length) : Pr hs lot g D j (i + 1) F := by
  refine ⟨P.nd, P.en, P.pr, fun e' he' r' hr' hp' => ?_⟩
  rcases mem_take_snoc hr hr' with z | z
  · exact P.pc e' he' r' z hp'
  · rw [he] at he'
    have e2 := Option.some.inj he'
    subst e2 z
    obtain ⟨o, ho, hl⟩ := h hp'
    exact ⟨_, lk_some ho, rfl, hl⟩
theorem Pr.row {j : Nat} {F : FD} {e : List Nat × (Nat × List Nat)} (P : Pr hs lot g D j lot.length F) (he : D[j]? = some e) : Pr hs lot g D (j + 1) 0 F :=
  ⟨P.nd, P.en, fun e' he' r hr hp => by
    rcases mem_take_snoc he he' with z | z
    · exact P.pr e' z r hr hp
    · subst z
      exact P.pc e' he r (by rw [List.take_length]; exact hr) hp, fun _ _ _ h => (List.not_mem_nil h).elim⟩
theorem Pr.fin {F : FD} (M : MS hs lot g D) (P : Pr hs lot g D D.length 0 F) : PS hs lot g F := by
  refine ⟨P.nd, P.en, fun t ht => ?_⟩
  obtain ⟨e, he, em, hl⟩ := M.all t.p ht.1.1 t.w ht.1.2.1
  obtain ⟨a, b, c⟩ := M.en e he
  have same : yes hs g ⟨e.2.1, e.2.2, t.r⟩ = yes hs g t := by
    rw [← part_marks hs t g, ← part_marks hs ⟨e.2.1, e.2.2, t.r⟩ g]
    show part g (marks hs g e.2.1 e.2.2) t.r = _
    rw [← c, em]
  have sameN : no hs g ⟨e.2.1, e.2.2, t.r⟩ = no hs g t := by rw [← rst_yes, ← rst_yes, same]
  have hp : Prp hs lot g ⟨e.2.1, e.2.2, t.r⟩ := ⟨⟨a, b, ht.1.2.2⟩, by rw [same]; exact ht.2.1, by rw [sameN]; exact ht.2.2⟩
  obtain ⟨f, hf, q, hl'⟩ := P.pr e (by rw [List.take_length]; exact he) t.r ht.1.2.2 hp
  exact ⟨f, hf, by rw [q, same], Nat.le_trans hl' hl⟩
theorem PS.nil_iff {F : FD} (P : PS hs lot g F) : F = [] ↔ ¬ ∃ t, Prp hs lot g t := by
  constructor
  · intro e ⟨t, ht⟩
    obtain ⟨f, hf, _⟩ := P.all t ht
    rw [e] at hf
    exact List.not_mem_nil hf
  · intro h
    cases F with
    | nil => rfl
    | cons f F => exact absurd ⟨f.2, (P.en f List.mem_cons_self).1⟩ h
end
end Rs


set_option linter.all false
namespace Rs
open Classical
abbrev RD := List (Nat × (List Nat × List Nat))
/-! ### _law_tests -/
section
variable (hs : HabL) (lot g : List Nat)
/-- ahead of the n-th row -/
structure Lv (n : Nat) (R : RD) (Sn : List (List Nat)) (F : FD) : Prop where
  row : ∀ e ∈ R, e.1 ∈ lot ∧ (∀ q ∈ e.2.1, q ∈ lot) ∧ e.2.1.length = n ∧ e.2.2 = marks hs g e.1 e.2.1
  snd : Sn.Nodup
  snm : ∀ m ∈ Sn, IsM hs lot g m
  fnd : (keys F).Nodup
  fen : ∀ f ∈ F, f.2.ok lot ∧ f.1 = yes hs g f.2 ∧ f.2.w.length < n
  fsn : ∀ m ∈ Sn, ∀ r ∈ lot, part g m r ∈ keys F
  low : ∀ p ∈ lot, ∀ w : List Nat, (∀ q ∈ w, q ∈ lot) → w.length < n → marks hs g p w ∈ Sn ∧ ∀ r ∈ lot, ∃ f ∈ F, f.1 = yes hs g ⟨p, w, r⟩ ∧ f.2.w.length ≤ w.length
  s0 : ∀ p ∈ lot, marks hs g p [] ∈ Sn ∨ ∃ e ∈ R, e.2.2 = marks hs g p []
  cl : ∀ m ∈ Sn, ∀ q ∈ lot, mv hs g q m ∈ Sn ∨ ∃ e ∈ R, e.2.2 = mv hs g q m
  cnt : R ≠ [] → n ≤ Sn.length
/-- k entries of the row are done -/
structure Rn (n : Nat) (R : RD) (Sn : List (List Nat)) (F : FD) (k : Nat) (Sn' : List (List Nat)) (F' : FD) (X : RD) : Prop where
  fx : ∃ F2, F' = F ++ F2
  sx : ∃ S2, Sn' = Sn ++ S2
  snd : Sn'.Nodup
  snm : ∀ m ∈ Sn', IsM hs lot g m
  fnd : (keys F').Nodup
  fen : ∀ f ∈ F', f.2.ok lot ∧ f.1 = yes hs g f.2 ∧ f.2.w.length ≤ n
  fsn : ∀ m ∈ Sn', ∀ r ∈ lot, part g m r ∈ keys F'
  pr : ∀ e ∈ R.take k, e.2.2 ∈ Sn'
  xen : ∀ e ∈ X, e.1 ∈ lot ∧ (∀ q ∈ e.2.1, q ∈ lot) ∧ e.2.1.length = n + 1 ∧ e.2.2 = marks hs g e.1 e.2.1
  xnew : ∀ m ∈ Sn', m ∈ Sn ∨ ∀ q ∈ lot, ∃ e ∈ X, e.2.2 = mv hs g q m
  xlen : X.length ≤ lot.length * Sn'.length
  xcnt : X ≠ [] → Sn.length < Sn'.length
/-- i reads of the marks m are done -/
structure Rf (n : Nat) (F' : FD) (m : List Nat) (i : Nat) (F'' : FD) : Prop where
  fx : ∃ F2, F'' = F' ++ F2
  fnd : (keys F'').Nodup
  fen : ∀ f ∈ F'', f.2.ok lot ∧ f.1 = yes hs g f.2 ∧ f.2.w.length ≤ n
  pr : ∀ r ∈ lot.take i, part g m r ∈ keys F''
structure LS (F : FD) : Prop where
  nd : (keys F).Nodup
  en : ∀ f ∈ F, f.2.ok lot ∧ f.1 = yes hs g f.2
  all : ∀ t : Ts, t.ok lot → ∃ f ∈ F, f.1 = yes hs g t ∧ f.2.w.length ≤ t.w.length
end
/-- what is put into the longer row for one entry -/
def ext (hs : HabL) (g : List Nat) (p : Nat) (w m : List Nat) (l : List Nat) : RD := l.map fun q => (p, (w ++ [q], mv hs g q m))
theorem ext_snoc {hs : HabL} {g : List Nat} {p : Nat} {w m l : List Nat} {i q : Nat} (h : l[i]? = some q) : ext hs g p w m (l.take (i + 1)) = ext hs g p w m (l.take i) ++ [(p, (w ++ [q], mv hs g q m))] := by
  unfold ext
  rw [take_snoc h, List.map_append]
  rfl
section
variable {hs : HabL} {lot g : List Nat}
theorem Lv.start : Lv hs lot g 0 (lot.map fun p => (p, ([], marks hs g p []))) [] [] where
  row := fun e he => by
    obtain ⟨p, hp, q⟩ := List.mem_map.mp he
    rw [← q]
    exact ⟨hp, fun _ h => (List.not_mem_nil h).elim, rfl, rfl⟩
  snd := List.nodup_nil
  snm := fun _ h => (List.not_mem_nil h).elim
  fnd := List.nodup_nil
  fen := fun _ h => (List.not_mem_nil h).elim
  fsn := fun _ h => (List.not_mem_nil h).elim
  low := fun _ _ _ _ h => absurd h (Nat.not_lt_zero _)
  s0 := fun p hp => .inr ⟨_, List.mem_map.mpr ⟨p, hp, rfl⟩, rfl⟩
  cl := fun _ h => (List.not_mem_nil h).elim
  cnt := fun _ => Nat.le_refl _
theorem Rn.start {n : Nat} {R : RD} {Sn : List (List Nat)} {F : FD} (L : Lv hs lot g n R Sn F) : Rn hs lot g n R Sn F 0 Sn F [] where
  fx := ⟨[], (List.append_nil _).symm⟩
  sx := ⟨[], (List.append_nil _).symm⟩
  snd := L.snd
  snm := L.snm
  fnd := L.fnd
  fen := fun f hf => ⟨(L.fen f hf).1, (L.fen f hf).2.1, Nat.le_of_lt (L.fen f hf).2.2⟩
  fsn := L.fsn
  pr := fun _ h => (List.not_mem_nil h).elim
  xen := fun _ h => (List.not_mem_nil h).elim
  xnew := fun m h => .inl h
  xlen := Nat.zero_le _
  xcnt := fun h => absurd rfl h
theorem Rn.skip {n k : Nat} {R : RD} {Sn Sn' : List (List Nat)} {F F' : FD} {X : RD} {e : Nat × (List Nat × List Nat)} (N : Rn hs lot g n R Sn F k Sn' F' X) (he : R[k]? = some e) (hm : e.2.2 ∈ Sn') : Rn hs lot g n R Sn F (k + 1) Sn' F' X :=
  ⟨N.fx, N.sx, N.snd, N.snm, N.fnd, N.fen, N.fsn, fun e' he' => by
    rcases mem_take_snoc he he' with z | z
    · exact N.pr e' z
    · rw [z]
      exact hm, N.xen, N.xnew, N.xlen, N.xcnt⟩
theorem Rf.start {n k : Nat} {R : RD} {Sn Sn' : List (List Nat)} {F F' : FD} {X : RD} (N : Rn hs lot g n R Sn F k Sn' F' X) (m : List Nat) : Rf hs lot g n F' m 0 F' :=
  ⟨⟨[], (List.append_nil _).symm⟩, N.fnd, N.fen, fun _ h => (List.not_mem_nil h).elim⟩
theorem Rf.old {n i r : Nat} {F' F'' : FD} {m : List Nat} (N : Rf hs lot g n F' m i F'') (hr : lot[i]? = some r) (h : part g m r ∈ keys F'') : Rf hs lot g n F' m (i + 1) F'' :=
  ⟨N.fx, N.fnd, N.fen, fun r' hr' => by
    rcases mem_take_snoc hr hr' with z | z
    · exact N.pr r' z
    · rw [z]
      exact h⟩
theorem Rf.new {n i r p : Nat} {w m : List Nat} {F' F'' : FD} (N : Rf hs lot g n F' m i F'') (hr : lot[i]? = some r) (hp : p ∈ lot) (hw : ∀ q ∈ w, q ∈ lot) (em : m = marks hs g p w) (hl : w.length = n) (h : part g m r ∉ keys F'') :
    Rf hs lot g n F' m (i + 1) (pt F'' (part g m r) ⟨p, w, r⟩) := by
  obtain ⟨F2, e1⟩ := N.fx
  refine ⟨⟨F2 ++ [(part g m r, ⟨p, w, r⟩)], by rw [pt_new h, e1, List.append_assoc]⟩, nodup_pt N.fnd, fun f hf => ?_, fun r' hr' => ?_⟩
  · rcases mem_pt hf with z | z
    · rw [z]
      refine ⟨⟨hp, hw, List.mem_of_getElem? hr⟩, ?_, Nat.le_of_eq hl⟩
      show part g m r = _
      rw [em, ← part_marks]
    · exact N.fen f z.1
  · rw [pt_new h, keys_snoc]
    rcases mem_take_snoc hr hr' with z | z
    · exact List.mem_append_left _ (N.pr r' z)
    · rw [z]
      exact List.mem_append_right _ List.mem_cons_self
theorem Rn.add {n k : Nat} {R : RD} {Sn Sn' : List (List Nat)} {F F' F'' : FD} {X : RD} {p : Nat} {w m : List Nat} (L : Lv hs lot g n R Sn F) (N : Rn hs lot g n R Sn F k Sn' F' X) (he : R[k]? = some (p, (w, m))) (hm : m ∉ Sn') (Q : Rf hs lot g n F' m lot.length F'') :
    Rn hs lot g n R Sn F (k + 1) (Sn' ++ [m]) F'' (X ++ ext hs g p w m lot) := by
  obtain ⟨F2, f1⟩ := N.fx
  obtain ⟨F3, f2⟩ := Q.fx
  obtain ⟨S2, s1⟩ := N.sx
  obtain ⟨r1, r2, r3, r4⟩ := L.row _ (List.mem_of_getElem? he)
  have kin : ∀ S ∈ keys F', S ∈ keys F'' := fun S hS => by
    rw [f2]
    unfold keys
    rw [List.map_append]
    exact List.mem_append_left _ hS
  refine ⟨⟨F2 ++ F3, by rw [f2, f1, List.append_assoc]⟩, ⟨S2 ++ [m], by rw [s1, List.append_assoc]⟩, nodup_snoc N.snd hm, fun m' h' => ?_, Q.fnd, Q.fen, fun m' h' r hr => ?_, fun e' he' => ?_, fun e' he' => ?_, fun m' h' => ?_, ?_, fun _ => ?_⟩
  · rcases List.mem_append.mp h' with z | z
    · exact N.snm m' z
    · rw [List.mem_singleton.mp z]
      exact ⟨p, w, r1, r2, r4⟩
  · rcases List.mem_append.mp h' with z | z
    · exact kin _ (N.fsn m' z r hr)
    · rw [List.mem_singleton.mp z]
      exact Q.pr r (by rw [List.take_length]; exact hr)
  · rcases mem_take_snoc he he' with z | z
    · exact List.mem_append_left _ (N.pr e' z)
    · rw [z]
      exact List.mem_append_right _ List.mem_cons_self
  · rcases List.mem_append.mp he' with z | z
    · exact N.xen e' z
    · obtain ⟨q, hq, e2⟩ := List.mem_map.mp z
      rw [← e2]
      refine ⟨r1, mem_snoc r2 hq, ?_, ?_⟩
      · show (w ++ [q]).length = n + 1
        rw [List.length_append, r3]
        rfl
      · show mv hs g q m = marks hs g p (w ++ [q])
        rw [← mv_marks]
        exact congrArg _ r4
  · rcases List.mem_append.mp h' with z | z
    · rcases N.xnew m' z with y | y
      · exact .inl y
      · refine .inr fun q hq => ?_
        obtain ⟨e', h1, h2⟩ := y q hq
        exact ⟨e', List.mem_append_left _ h1, h2⟩
    · rw [List.mem_singleton.mp z]
      exact .inr fun q hq => ⟨(p, (w ++ [q], mv hs g q m)), List.mem_append_right _ (List.mem_map.mpr ⟨q, hq, rfl⟩), rfl⟩
  · have a := N.xlen
    unfold ext
    rw [List.length_append, List.length_map, List.length_append, List.length_singleton, Nat.mul_succ]
    omega
  · rw [s1, List.length_append, List.length_append, List.length_singleton]
    omega
theorem Rn.done {n : Nat} {R : RD} {Sn Sn' : List (List Nat)} {F F' : FD} {X : RD} (L : Lv hs lot g n R Sn F) (hR : R ≠ []) (N : Rn hs lot g n R Sn F R.length Sn' F' X) : Lv hs lot g (n + 1) X Sn' F' := by
  obtain ⟨F2, f1⟩ := N.fx
  obtain ⟨S2, s1⟩ := N.sx
  have sin : ∀ m ∈ Sn, m ∈ Sn' := fun m h => by rw [s1]; exact List.mem_append_left _ h
  have fin : ∀ f ∈ F, f ∈ F' := fun f h => by rw [f1]; exact List.mem_append_left _ h
  have rin : ∀ e ∈ R, e.2.2 ∈ Sn' := fun e h => N.pr e (by rw [List.take_length]; exact h)
  have all : ∀ p ∈ lot, ∀ w : List Nat, (∀ q ∈ w, q ∈ lot) → w.length ≤ n → marks hs g p w ∈ Sn' := by
    intro p hp w hw hl
    rcases Nat.lt_or_ge w.length n with z | z
    · exact sin _ (L.low p hp w hw z).1
    · have e : w.length = n := Nat.le_antisymm hl z
      cases n with
      | zero =>
        have e0 : w = [] := List.eq_nil_of_length_eq_zero e
        subst e0
        rcases L.s0 p hp with y | ⟨e', h1, h2⟩
        · exact sin _ y
        · rw [← h2]
          exact rin e' h1
      | succ n =>
        obtain ⟨w0, q, ew, hl0⟩ := snoc_of e
        subst ew
        have hw0 : ∀ x ∈ w0, x ∈ lot := fun x hx => hw x (List.mem_append_left _ hx)
        have hq : q ∈ lot := hw q (List.mem_append_right _ List.mem_cons_self)
        have h0 := (L.low p hp w0 hw0 (by omega)).1
        rw [← mv_marks]
        rcases L.cl _ h0 q hq with y | ⟨e', h1, h2⟩
        · exact sin _ y
        · rw [← h2]
          exact rin e' h1
  refine ⟨N.xen, N.snd, N.snm, N.fnd, fun f hf => ⟨(N.fen f hf).1, (N.fen f hf).2.1, Nat.lt_succ_of_le (N.fen f hf).2.2⟩, N.fsn, fun p hp w hw hl => ?_, fun p hp => .inl (all p hp [] (fun _ h => (List.not_mem_nil h).elim) (Nat.zero_le _)), fun m hm q hq => ?_, fun hX => ?_⟩
  · have hm := all p hp w hw (Nat.le_of_lt_succ hl)
    refine ⟨hm, fun r hr => ?_⟩
    rcases Nat.lt_or_ge w.length n with z | z
    · obtain ⟨f, h1, h2, h3⟩ := (L.low p hp w hw z).2 r hr
      exact ⟨f, fin f h1, h2, h3⟩
    · obtain ⟨f, h1, h2⟩ := List.mem_map.mp (N.fsn _ hm r hr)
      refine ⟨f, h1, ?_, Nat.le_trans (N.fen f h1).2.2 z⟩
      rw [h2]
      exact part_marks hs ⟨p, w, r⟩ g
  · rcases N.xnew m hm with y | y
    · rcases L.cl m y q hq with z | ⟨e', h1, h2⟩
      · exact .inl (sin _ z)
      · left
        rw [← h2]
        exact rin e' h1
    · exact .inr (y q hq)
  · have a := N.xcnt hX
    have b := L.cnt hR
    omega
theorem Lv.fin {n : Nat} {Sn : List (List Nat)} {F : FD} (L : Lv hs lot g n [] Sn F) : LS hs lot g F := by
  refine ⟨L.fnd, fun f hf => ⟨(L.fen f hf).1, (L.fen f hf).2.1⟩, fun t ht => ?_⟩
  have key : ∀ k : Nat, ∀ w : List Nat, w.length = k → (∀ q ∈ w, q ∈ lot) → marks hs g t.p w ∈ Sn := by
    intro k
    induction k with
    | zero =>
      intro w hl _
      rw [List.eq_nil_of_length_eq_zero hl]
      rcases L.s0 t.p ht.1 with z | ⟨e, h, _⟩
      · exact z
      · exact (List.not_mem_nil h).elim
    | succ k ih =>
      intro w hl hw
      obtain ⟨w0, q, ew, hl0⟩ := snoc_of hl
      subst ew
      have h0 := ih w0 hl0 fun x hx => hw x (List.mem_append_left _ hx)
      rw [← mv_marks]
      rcases L.cl _ h0 q (hw q (List.mem_append_right _ List.mem_cons_self)) with z | ⟨e, h, _⟩
      · exact z
      · exact (List.not_mem_nil h).elim
  have hm := key t.w.length t.w rfl ht.2.1
  rcases Nat.lt_or_ge t.w.length n with z | z
  · exact (L.low t.p ht.1 t.w ht.2.1 z).2 t.r ht.2.2
  · obtain ⟨f, h1, h2⟩ := List.mem_map.mp (L.fsn _ hm t.r ht.2.2)
    refine ⟨f, h1, ?_, Nat.le_trans (Nat.le_of_lt (L.fen f h1).2.2) z⟩
    rw [h2]
    exact part_marks hs t g
theorem Lv.few {pl n : Nat} {R : RD} {Sn : List (List Nat)} {F : FD} (G : Good hs pl lot) (hg : Grp hs g) (L : Lv hs lot g n R Sn F) : Sn.length ≤ 3125 := few_M G hg L.snd L.snm
theorem Rn.few {pl n k : Nat} {R : RD} {Sn Sn' : List (List Nat)} {F F' : FD} {X : RD} (G : Good hs pl lot) (hg : Grp hs g) (N : Rn hs lot g n R Sn F k Sn' F' X) : Sn'.length ≤ 3125 := few_M G hg N.snd N.snm
theorem Good.lot_le {pl : Nat} (G : Good hs pl lot) : lot.length ≤ 5 := by
  have a : lot.Nodup := G.asc.imp fun h => Nat.ne_of_lt h
  have b := nodup_le (L := List.range pl) a fun x hx => List.mem_range.mpr (G.lt x hx)
  rw [List.length_range] at b
  exact Nat.le_trans b G.p5
theorem fen_few {F : FD} (hg : Grp hs g) (h5 : hs.length ≤ 5) (hn : (keys F).Nodup) (h : ∀ f ∈ F, f.1 = yes hs g f.2) : F.length ≤ 32 := by
  have a := few_subs (D := keys F) (g := g) hn (fun s hm => by
    obtain ⟨f, hf, q⟩ := List.mem_map.mp hm
    rw [← q, h f hf]
    exact yes_sub _ _ _) (Nat.le_trans hg.len h5)
  rw [List.length_map] at a
  exact a
end

/-! ### the least over all tests -/
section
variable (hs : HabL) (lot g : List Nat)
/-- Best.tree: behind i of the keys O -/
structure Bs (F : FD) (O : List (List Nat)) (i : Nat) (fo : Option (Nat × T)) : Prop where
  no_ : fo = none → i = 0
  so : ∀ v t, fo = some (v, t) → wv hs lot g t = some v ∧ (∃ s, Prp hs lot g s ∧ v = cst hs lot g s) ∧ ∀ S ∈ O.take i, ∀ s, lk F S = some s → v ≤ cst hs lot g s
/-- _law_least: behind i of the parts -/
structure Ll (F : FD) (i : Nat) (b : Option Nat) : Prop where
  no_ : b = none → ∀ f ∈ F.take i, ¬ Prp hs lot g f.2
  so : ∀ v, b = some v → (∃ s, Prp hs lot g s ∧ v = cst hs lot g s) ∧ ∀ f ∈ F.take i, Prp hs lot g f.2 → v ≤ cst hs lot g f.2
end
section
variable {hs : HabL} {lot g : List Nat} {F : FD}
theorem Bs.start {O : List (List Nat)} : Bs hs lot g F O 0 none := ⟨fun _ => rfl, fun _ _ e => (nomatch e)⟩
/-- a group that no test parts -/
theorem tree_left (P : PS hs lot g F) (e : F = []) : lw hs lot g = 0 ∧ wv hs lot g (.left g) = some 0 := by
  have h := P.nil_iff.mp e
  exact ⟨lw_none h, wv_left h⟩
theorem Bs.take {O : List (List Nat)} {i : Nat} {fo : Option (Nat × T)} {S : List Nat} {s : Ts} {a b : T} (P : PS hs lot g F) (B : Bs hs lot g F O i fo) (hO : O[i]? = some S) (hs' : lk F S = some s)
    (ha : wv hs lot (yes hs g s) a = some (lw hs lot (yes hs g s))) (hb : wv hs lot (no hs g s) b = some (lw hs lot (no hs g s))) (hlt : ∀ v t, fo = some (v, t) → cst hs lot g s < v) :
    Bs hs lot g F O (i + 1) (some (cst hs lot g s, .test s a b)) := by
  have hp : Prp hs lot g s := (P.en _ (lk_some hs')).1
  refine ⟨fun e => (nomatch e), fun v t e => ?_⟩
  have e1 := (Prod.mk.inj (Option.some.inj e)).1
  have e2 := (Prod.mk.inj (Option.some.inj e)).2
  subst e1 e2
  refine ⟨wv_test hp ha hb, ⟨s, hp, rfl⟩, fun S' hS' s' hs'' => ?_⟩
  rcases mem_take_snoc hO hS' with z | z
  · cases fo with
    | none =>
      have i0 := B.no_ rfl
      subst i0
      exact (List.not_mem_nil z).elim
    | some p => exact Nat.le_of_lt (Nat.lt_of_lt_of_le (hlt p.1 p.2 rfl) ((B.so p.1 p.2 rfl).2.2 S' z s' hs''))
  · subst z
    rw [hs'] at hs''
    rw [Option.some.inj hs'']
    exact Nat.le_refl _
theorem Bs.keep {O : List (List Nat)} {i v : Nat} {t : T} {S : List Nat} {s : Ts} (B : Bs hs lot g F O i (some (v, t))) (hO : O[i]? = some S) (hs' : lk F S = some s) (hge : v ≤ cst hs lot g s) : Bs hs lot g F O (i + 1) (some (v, t)) := by
  refine ⟨fun e => (nomatch e), fun v' t' e => ?_⟩
  have e1 := (Prod.mk.inj (Option.some.inj e)).1
  have e2 := (Prod.mk.inj (Option.some.inj e)).2
  subst e1 e2
  obtain ⟨h1, h2, h3⟩ := B.so v t rfl
  refine ⟨h1, h2, fun S' hS' s' hs'' => ?_⟩
  rcases mem_take_snoc hO hS' with z | z
  · exact h3 S' z s' hs''
  · subst z
    rw [hs'] at hs''
    rw [← Option.some.inj hs'']
    exact hge
theorem cst_le {t s : Ts} (e : yes hs g s = yes hs g t) (hl : s.w.length ≤ t.w.length) : cst hs lot g s ≤ cst hs lot g t := by
  unfold cst
  have e2 : no hs g s = no hs g t := by rw [← rst_yes, ← rst_yes, e]
  rw [e, e2]
  omega
theorem Bs.fin {O : List (List Nat)} {fo : Option (Nat × T)} (P : PS hs lot g F) (hF : F ≠ []) (hO : ∀ S, S ∈ O ↔ S ∈ keys F) (B : Bs hs lot g F O O.length fo) : ∃ v t, fo = some (v, t) ∧ v = lw hs lot g ∧ wv hs lot g t = some v := by
  cases fo with
  | none =>
    have h0 := B.no_ rfl
    cases F with
    | nil => exact absurd rfl hF
    | cons f F =>
      have : f.1 ∈ O := (hO f.1).mpr List.mem_cons_self
      rw [List.eq_nil_of_length_eq_zero h0] at this
      exact (List.not_mem_nil this).elim
  | some p =>
    obtain ⟨h1, h2, h3⟩ := B.so p.1 p.2 rfl
    refine ⟨p.1, p.2, rfl, ?_, h1⟩
    refine (lw_is h2 fun t ht => ?_).symm
    obtain ⟨f, hf, q, hl⟩ := P.all t ht
    have hk : f.1 ∈ O := (hO f.1).mpr (List.mem_map.mpr ⟨f, hf, rfl⟩)
    refine Nat.le_trans (h3 f.1 (by rw [List.take_length]; exact hk) f.2 (lk_mem P.nd hf)) (cst_le ?_ hl)
    rw [← (P.en f hf).2, q]
theorem Ll.start : Ll hs lot g F 0 none := ⟨fun _ _ h => (List.not_mem_nil h).elim, fun _ e => nomatch e⟩
theorem Ll.skip {i : Nat} {b : Option Nat} {f : List Nat × Ts} (L : Ll hs lot g F i b) (hf : F[i]? = some f) (hn : ¬ Prp hs lot g f.2) : Ll hs lot g F (i + 1) b :=
  ⟨fun e f' h' => by
    rcases mem_take_snoc hf h' with z | z
    · exact L.no_ e f' z
    · rw [z]
      exact hn, fun v e => ⟨(L.so v e).1, fun f' h' hp => by
    rcases mem_take_snoc hf h' with z | z
    · exact (L.so v e).2 f' z hp
    · rw [z] at hp
      exact absurd hp hn⟩⟩
theorem Ll.take {i : Nat} {b : Option Nat} {f : List Nat × Ts} (L : Ll hs lot g F i b) (hf : F[i]? = some f) (hp : Prp hs lot g f.2) (hlt : ∀ v, b = some v → cst hs lot g f.2 < v) : Ll hs lot g F (i + 1) (some (cst hs lot g f.2)) :=
  ⟨fun e => (nomatch e), fun v e => by
    have e1 := Option.some.inj e
    subst e1
    refine ⟨⟨f.2, hp, rfl⟩, fun f' h' hp' => ?_⟩
    rcases mem_take_snoc hf h' with z | z
    · cases b with
      | none => exact absurd hp' (L.no_ rfl f' z)
      | some v => exact Nat.le_of_lt (Nat.lt_of_lt_of_le (hlt v rfl) ((L.so v rfl).2 f' z hp'))
    · rw [z]
      exact Nat.le_refl _⟩
theorem Ll.keep {i v : Nat} {f : List Nat × Ts} (L : Ll hs lot g F i (some v)) (hf : F[i]? = some f) (hge : v ≤ cst hs lot g f.2) : Ll hs lot g F (i + 1) (some v) :=
  ⟨fun e => (nomatch e), fun v' e => by
    have e1 := Option.some.inj e
    subst e1
    refine ⟨(L.so v rfl).1, fun f' h' hp' => ?_⟩
    rcases mem_take_snoc hf h' with z | z
    · exact (L.so v rfl).2 f' z hp'
    · rw [z]
      exact hge⟩
theorem LS.prp_iff (P : LS hs lot g F) : (∃ t, Prp hs lot g t) → ∃ f ∈ F, Prp hs lot g f.2 := by
  rintro ⟨t, ht⟩
  obtain ⟨f, hf, q, hl⟩ := P.all t ht.1
  have e : yes hs g f.2 = yes hs g t := by rw [← (P.en f hf).2, q]
  have e2 : no hs g f.2 = no hs g t := by rw [← rst_yes, ← rst_yes, e]
  exact ⟨f, hf, (P.en f hf).1, by rw [e]; exact ht.2.1, by rw [e2]; exact ht.2.2⟩
theorem Ll.fin {b : Option Nat} (P : LS hs lot g F) (L : Ll hs lot g F F.length b) : lw hs lot g = b.getD 0 := by
  cases b with
  | none =>
    refine lw_none fun h => ?_
    obtain ⟨f, hf, hp⟩ := P.prp_iff h
    exact L.no_ rfl f (by rw [List.take_length]; exact hf) hp
  | some v =>
    refine lw_is (L.so v rfl).1 fun t ht => ?_
    obtain ⟨f, hf, q, hl⟩ := P.all t ht.1
    have e : yes hs g f.2 = yes hs g t := by rw [← (P.en f hf).2, q]
    have e2 : no hs g f.2 = no hs g t := by rw [← rst_yes, ← rst_yes, e]
    have hp : Prp hs lot g f.2 := ⟨(P.en f hf).1, by rw [e]; exact ht.2.1, by rw [e2]; exact ht.2.2⟩
    exact Nat.le_trans ((L.so v rfl).2 f (by rw [List.take_length]; exact hf) hp) (cst_le e hl)
end
/-! ### what is known already -/
section
variable (hs : HabL) (lot : List Nat)
structure KnL (D : List (List Nat × Nat)) : Prop where
  nd : (keys D).Nodup
  en : ∀ e ∈ D, Grp hs e.1 ∧ e.2 = lw hs lot e.1
structure KnB (D : List (List Nat × (Nat × T))) : Prop where
  nd : (keys D).Nodup
  en : ∀ e ∈ D, Grp hs e.1 ∧ e.2.1 = lw hs lot e.1 ∧ wv hs lot e.1 e.2.2 = some e.2.1
end
section
variable {hs : HabL} {lot : List Nat}
theorem kn_few {β : Type} {D : List (List Nat × β)} (h5 : hs.length ≤ 5) (hn : (keys D).Nodup) (h : ∀ e ∈ D, Grp hs e.1) : D.length ≤ 32 := by
  have a := few_subs (D := keys D) (g := List.range hs.length) hn (fun s hm => by
    obtain ⟨f, hf, q⟩ := List.mem_map.mp hm
    rw [← q]
    exact h f hf) (by rw [List.length_range]; exact h5)
  rw [List.length_map] at a
  exact a
theorem KnL.put {D : List (List Nat × Nat)} (K : KnL hs lot D) {g : List Nat} (hg : Grp hs g) : KnL hs lot (pt D g (lw hs lot g)) :=
  ⟨nodup_pt K.nd, fun e he => by
    rcases mem_pt he with z | z
    · rw [z]
      exact ⟨hg, rfl⟩
    · exact K.en e z.1⟩
theorem KnB.put {D : List (List Nat × (Nat × T))} (K : KnB hs lot D) {g : List Nat} {t : T} (hg : Grp hs g) (h : wv hs lot g t = some (lw hs lot g)) : KnB hs lot (pt D g (lw hs lot g, t)) :=
  ⟨nodup_pt K.nd, fun e he => by
    rcases mem_pt he with z | z
    · rw [z]
      exact ⟨hg, rfl, h⟩
    · exact K.en e z.1⟩
end
end Rs


set_option Elab.async false
set_option linter.all false
set_option maxRecDepth 100000
set_option maxHeartbeats 4000000
namespace Rs
open PySem L2
/-! ### the text by places -/
def topS (i : Nat) : Stmt := PySem.Challenge.pw_restlesshelf_k64_whole_trees.main.body.getD i (.Pass ⟨0, 0, 0, 0⟩)
end Rs


set_option Elab.async false
set_option linter.all false
set_option maxRecDepth 100000
set_option maxHeartbeats 4000000
/-! rules that the kit lacks -/
namespace Rs
open PySem PySem.Spec PyProof.Rows L2

/-! ### d.keys() of a dict with tuple keys -/
section
variable {prog : Program} {w : World} {A : Around} {E : Value → Shared → Prop} {s : Shared} {r d : Addr} {o : Obj} {es : Array DictEntry} {ep : Nat}
theorem raw_meets_keys (hd : (d == sysModules) = false) :
    MeetsIn prog w (Builtin.«dict.keys» ⟨[.ref d], []⟩) (fun _ R s => DT.Raw s.heap d es ep ∧
      R (.ok (.ret (.ref s.heap.objs.size))) { s with heap := s.heap.push { cls := .type "dict_keys", data := .fields #[.ref d] } }) :=
  .of_wp fun A R s ⟨hm, h⟩ => by
    refine wpAny_bind ?_
    unfold Builtin.Dict.noArgs
    refine wpAny_bind (wpAny_notOrdered_dict hm.typeIs ?_)
    show wpAny _ _ (pure d) _ _ s
    refine wpAny_pure ?_
    show wpAny _ _ (Builtin.Dict.showsAll d >>= _) _ _ s
    unfold Builtin.Dict.showsAll
    rw [if_neg (by rw [hd]; exact Bool.false_ne_true)]
    refine wpAny_bind (wpAny_pure ?_)
    exact wpAny_bind (wpAny_newObj_type (wpAny_pure ⟨_, rfl, h⟩))
theorem raw_iter_keys {v : Addr} {Q : Value → Shared → Prop} (hv : PySem.W.KdlKeysView s.heap v d) (ho : s.heap.get? d = some o) (hdat : o.data = .dict es ep)
    (hQ : Q (.ref s.heap.objs.size) { s with heap := s.heap.push { cls := .type "dict_keyiterator", data := .fields #[.ref d, .int 0 0, .int es.size 0, .int ep 0] } }) :
    wpAny (model prog w) A (pyIter (.ref v)) Q E s := by
  obtain ⟨ov, hov, hcv, hdv⟩ := _root_.id hv
  refine wpAny_pyIter_slot hv.typeIs PySem.W.kdl_slot_keys_iter (wpAny_call_entry PySem.W.kdl_slot_keys_iter hv.typeIs PySem.W.kdl_entry_keys_iter ?_ (PySem.W.kdl_args_keys_iter _))
  unfold Builtin.«dict_keys.__iter__»
  refine wpAny_bind (wpAny_pure ?_)
  refine wpAny_bind ?_
  unfold Builtin.Dict_items.dictOf
  refine wpAny_bind (wpAny_field hov hdv (x := .ref d) rfl (wpAny_pure ?_))
  refine wpAny_bind ?_
  unfold Builtin.Dict_items.newIterator
  refine wpAny_bind (wpAny_dictEntries ho hdat ?_)
  refine wpAny_bind (wpAny_dictEpoch ho hdat ?_)
  have hown : Builtin.Dict_items.ownsTuple "dict_keyiterator" = false := by decide
  simp only [hown, Bool.false_eq_true, if_false]
  refine wpAny_newObj_type (wpAny_pure ⟨_, rfl, "dict_keyiterator", _, ⟨_, Heap.get?_push_size _ rfl, rfl⟩, PySem.F.slot_dict_keyiterator_next.lookup, ?_⟩)
  simpa [rawInt] using hQ
theorem kdl_rawK (hd : o.data = .dict es ep) : PySem.W.KdlSrc prog w "dict_keys" r d es.size (fun i v => ∃ en : DictEntry, es[i]? = some en ∧ v = en.key) (fun h => PySem.W.KdlKeysView h r d ∧ h.get? d = some o) where
  type := fun _ hm => hm.1.typeIs
  there := fun _ hm => ⟨let ⟨_, ho, _⟩ := hm.1; Heap.lt_size ho, Heap.lt_size hm.2⟩
  keep := fun _ _ hm hk => ⟨let ⟨o, ho, x⟩ := hm.1; ⟨o, hk r (.inl rfl) o ho, x⟩, hk d (.inr rfl) _ hm.2⟩
  notList := by decide
  notTuple := by decide
  hint := fun _ _ _ _ hm hq => PySem.W.kdl_hint_keys hm.1.typeIs hq
  iter := fun _ s hh hm => ⟨_, _, (fun _ _ hq => raw_iter_keys hm.1 hm.2 hd hq), L2.walks_raw hh _ d (Nat.ne_of_lt (Heap.lt_size hm.2)) hd, ⟨⟨_, Heap.get?_push_size _ rfl, rfl, rfl⟩, Heap.get?_push_of_some _ hm.2⟩⟩
/-- the list of what a source draws -/
theorem kdl_collect {T : String} {n : Nat} {P : Nat → Value → Prop} {OK : Heap → Prop} {R : List Value → Shared → Prop} (K : PySem.W.KdlSrc prog w T r d n P OK) (hh : A.handled = none) (hok : OK s.heap) (hn : n ≤ sizeLine)
    (h : ∀ (h' : Heap) (tk : Nat) (acc : Array Value), (∀ b o, s.heap.get? b = some o → h'.get? b = some o) → s.heap.objs.size < h'.objs.size → ItemsOf P acc n → R acc.toList { s with heap := h', toks := tk }) :
    wpAny (model prog w) A (collect (.ref r)) R E s := by
  obtain ⟨hr, hd⟩ := K.there _ hok
  unfold collect
  refine wpAny_bind (wpAny_runValue (codeAny_builtin PySem.F.entry_proto_collect ?_))
  rw [Around.under_plainId PySem.F.plain_proto_collect _]
  show wpAny _ A.in1 (newList [] >>= fun l => again (.builtin "list.__iadd__" ⟨[l, .ref r], []⟩)) _ _ s
  refine wpAny_bind (wpAny_newObj_type ?_)
  refine wpAny_pure ⟨plainId_quiet PySem.F.plain_list_iadd _, codeAny_builtin PySem.F.entry_list_iadd ?_⟩
  rw [Around.under_plainId PySem.F.plain_list_iadd _]
  have hS₁ : (s.heap.push { cls := .type "list", data := .seq ([] : List Value).toArray }).get? s.heap.objs.size = some { cls := .type "list", data := .seq #[] } := Heap.get?_push_size _ rfl
  show wpAny _ A.in1 (Builtin.List.listExtendWith (.ref s.heap.objs.size) (.ref r) (.ref s.heap.objs.size)) _ _ _
  have key := PySem.W.kdl_extend (prog := prog) (w := w) (A := A) (s := { s with heap := s.heap.push { cls := .type "list", data := .seq ([] : List Value).toArray } })
    (R := fun (q : Result) (s' : Shared) => ∃ (h' : Heap) (tk : Nat) (acc' : Array Value) (c' : Nat), q = .ok (.ret (.ref s.heap.objs.size)) ∧ s' = { s with heap := h', toks := tk } ∧
      (∀ b o, s.heap.get? b = some o → h'.get? b = some o) ∧ h'.get? s.heap.objs.size = some { cls := .type "list", dict := none, data := .seq acc' c', slots := #[] } ∧ ItemsOf P acc' n)
    K hh (K.keep _ _ hok fun b _ o e => Heap.get?_push_of_some _ e) s.heap.objs.size (Nat.ne_of_gt hr) (Nat.ne_of_gt hd) (.ref s.heap.objs.size) 0 hS₁
    (fun h' tk acc' c' hk hS' hacc => ⟨h', tk, acc', c', rfl, rfl, fun b o e => hk b o (Nat.ne_of_lt (Heap.lt_size e)) (Heap.get?_push_of_some _ e), hS', hacc⟩) hn
  refine wpAny_mono key (fun fin s' x => ?_) fun e s' x => ?_
  · cases fin with
    | done f =>
      obtain ⟨h', tk, acc', c', e, rfl, hk, hS', hacc⟩ := x
      cases e
      show wpAny _ A (load s.heap.objs.size >>= _) _ _ _
      refine wpAny_bind (wpAny_load hS' ?_)
      refine wpAny_pure ?_
      exact h h' tk acc' hk (Heap.lt_size hS') hacc
    | again c₁ =>
      refine ⟨x.1, codeAny_mono x.2 fun q s₂ y => ?_⟩
      obtain ⟨h', tk, acc', c', rfl, rfl, hk, hS', hacc⟩ := y
      show wpAny _ A (load s.heap.objs.size >>= _) _ _ _
      refine wpAny_bind (wpAny_load hS' ?_)
      refine wpAny_pure ?_
      exact h h' tk acc' hk (Heap.lt_size hS') hacc
  · obtain ⟨_, _, _, _, e', _⟩ := x
    cases e'
/-- sorted(view) up to the sort -/
theorem kdl_sorted {T : String} {n : Nat} {P : Nat → Value → Prop} {OK : Heap → Prop} {Q : Value → Shared → Prop} {ltv : Value → Value → Bool} (O : SrtO.Swo ltv) (K : PySem.W.KdlSrc prog w T r d n P OK) (hh : A.handled = none) (hok : OK s.heap) (hn : n ≤ sizeLine)
    (hS : ∀ (s₁ : Shared) (a : Addr) (acc : Array Value), ItemsOf P acc n → s₁.heap.get? a = some (seqObj "list" acc.toList.toArray 0) → (∀ b o, s.heap.get? b = some o → b ≠ a ∧ s₁.heap.get? b = some o) → 2 ≤ acc.toList.length → SrtO.SortableO prog w A.in1.in1 s₁ a acc.toList ltv)
    (h : ∀ (h' : Heap) (tk : Nat) (a : Addr) (acc : Array Value) (out : List Value), ItemsOf P acc n → out.Perm acc.toList → (∀ b o, s.heap.get? b = some o → h'.get? b = some o) → s.heap.objs.size ≤ a → (∃ n, h'.get? a = some (seqObj "list" out.toArray n)) → Q (.ref a) { s with heap := h', toks := tk }) :
    wpAny (model prog w) A (call (.builtin "sorted") [.ref r]) Q E s := by
  refine Calls.call_function_entry kind_sorted plain_sorted entry_sorted (args_sorted1 _) ?_
  unfold Builtin.«sorted»
  refine wpAny_bind (m := checkCount "sorted" 1 1 _) (wpAny_pure ?_)
  refine wpAny_bind (kdl_collect (A := A.in1) K hh hok hn fun h' tk acc hk hlt hacc => ?_)
  have hz : acc.toList.length ≤ sizeLine := by rw [Array.length_toList, hacc.1]; exact hn
  refine wpAny_bind (wpAny_newList ?_ hz)
  have hoL : (h'.push (seqObj "list" acc.toList.toArray 0)).get? h'.objs.size = some (seqObj "list" acc.toList.toArray 0) := Heap.get?_push_size _ rfl
  have keep : ∀ b o, s.heap.get? b = some o → b ≠ h'.objs.size ∧ (h'.push (seqObj "list" acc.toList.toArray 0)).get? b = some o := fun b o q =>
    ⟨Nat.ne_of_lt (Heap.lt_size (hk b o q)), Heap.get?_push_of_some _ (hk b o q)⟩
  refine wpAny_bind (wpAny_holding (wpAny_call_entry slot_list_sort ⟨_, hoL, rfl⟩ entry_list_sort (SrtO.list_sort_ord (s := { s with heap := h'.push (seqObj "list" acc.toList.toArray 0), toks := tk }) O hoL hz
    (fun h2 => hS _ _ acc hacc hoL keep h2) fun out hs hb => ⟨_, rfl, ?_⟩) (args_list_sort _)))
  refine wpAny_pure ⟨_, rfl, h _ _ _ acc out hacc hb.perm (fun b o q => ?_) (Nat.le_of_lt hlt) (sortedHeap_at hoL)⟩
  exact (sortedHeap_old (keep b o q).1 (Heap.lt_size (keep b o q).2)).trans (keep b o q).2
end
end Rs


set_option Elab.async false
set_option linter.all false
set_option maxRecDepth 100000
set_option maxHeartbeats 4000000
namespace Rs
open PySem PySem.Spec PyProof.Rows L2

/-! ### tuples of ints, in the order of sorted -/
theorem lexLt_swo : SrtO.Swo HT.lexLt := by
  refine ⟨fun x => ?_, fun x => ?_⟩
  · induction x with
    | nil =>
      intro y h
      cases y with
      | nil => rfl
      | cons _ _ => rfl
    | cons a x ih =>
      intro y h
      cases y with
      | nil => cases h
      | cons b y =>
        rw [HT.lexLt_cons] at h ⊢
        by_cases e : a = b
        · rw [if_pos e] at h
          rw [if_pos e.symm]
          exact ih y h
        · rw [if_neg e] at h
          rw [if_neg (fun z => e z.symm)]
          have := of_decide_eq_true h
          exact decide_eq_false (by omega)
  · induction x with
    | nil =>
      intro y z h1 h2
      cases y with
      | nil => exact h2
      | cons _ _ =>
        cases z with
        | nil => cases h2
        | cons _ _ => rfl
    | cons a x ih =>
      intro y z h1 h2
      cases y with
      | nil => cases h1
      | cons b y =>
        cases z with
        | nil => cases h2
        | cons c z =>
          rw [HT.lexLt_cons] at h1 h2 ⊢
          by_cases e1 : b = a
          · rw [if_pos e1] at h1
            by_cases e2 : c = b
            · rw [if_pos e2] at h2
              rw [if_pos (e2.trans e1)]
              exact ih y z h1 h2
            · rw [if_neg e2] at h2
              have := of_decide_eq_false h2
              rw [if_neg (by omega)]
              exact decide_eq_false (by omega)
          · rw [if_neg e1] at h1
            have := of_decide_eq_false h1
            by_cases e2 : c = b
            · rw [if_neg (by omega)]
              exact decide_eq_false (by omega)
            · rw [if_neg e2] at h2
              have := of_decide_eq_false h2
              rw [if_neg (by omega)]
              exact decide_eq_false (by omega)
/-- v is a tuple of the ints ns -/
def IntT (h : Heap) (v : Value) (ns : List Int) : Prop := ∃ a o xs n, v = .ref a ∧ h.get? a = some o ∧ o.cls = .type "tuple" ∧ o.data = .seq xs n ∧ IntsAre xs.toList ns ∧ ns ≠ []
theorem IntT.keeps {h h' : Heap} {v : Value} {ns : List Int} (x : IntT h v ns) (k : ∀ b o, h.get? b = some o → o.cls = .type "tuple" → h'.get? b = some o) : IntT h' v ns := by
  obtain ⟨a, o, xs, n, e, ho, hc, r⟩ := x
  exact ⟨a, o, xs, n, e, k a o ho hc, hc, r⟩
section
variable {prog : Program} {w : World} {A : Around} {E : Value → Shared → Prop} {s : Shared}
theorem lex_go {b fin : Bool} {Q : Bool → Shared → Prop} {xs ys : List Value} {ns ms : List Int} (i : Nat) (hx : IntsAre xs ns) (hy : IntsAre ys ms) (hf : fin = decide (ns.length < ms.length)) (h : Q (HT.lexLt ns ms) s) :
    PySem.W.KatLex prog w A b fin Q (xs.zip ys) i s := by
  induction hx generalizing ys ms i with
  | nil =>
    cases hy with
    | nil =>
      refine PySem.W.kat_nil ?_
      rw [hf]
      exact h
    | cons m t r =>
      refine PySem.W.kat_nil ?_
      rw [hf]
      rw [show ∀ l : List Int, decide (([] : List Int).length < (m :: l).length) = true from fun l => decide_eq_true (Nat.succ_pos _)]
      exact h
  | cons n t r ih =>
    cases hy with
    | nil =>
      refine PySem.W.kat_nil ?_
      rw [hf]
      rw [show ∀ l : List Int, decide ((n :: l).length < ([] : List Int).length) = false from fun l => decide_eq_false (Nat.not_lt_zero _)]
      exact h
    | cons m u r2 =>
      refine PySem.W.kat_cons (SeqAt.EqAt.int_int n t m u prog w _ _ ?_)
      refine PySem.W.kat_go (fun e1 => ?_) (fun e1 => ?_)
      · have ex : n = m := by simpa using e1
        refine PySem.W.kat_yes (ih (i + 1) r2 ?_ ?_)
        · rw [hf, List.length_cons, List.length_cons]
          simp
        · rw [HT.lexLt_cons, if_pos ex] at h
          exact h
      · have ex : ¬ n = m := by simpa using e1
        rw [HT.lexLt_cons, if_neg ex] at h
        exact PySem.W.kat_no (TS.oneLt_ints _ h)
theorem intT_cmp {vs : List Value} {k : Value → List Int} (hp : ∀ v ∈ vs, IntT s.heap v (k v)) : SrtO.Cmp prog w A s (tuples' true) (fun p => p.1 ∈ vs) (SrtO.lt2 fun v u => HT.lexLt (k v) (k u)) := by
  intro p q hm hm'
  have h1 := hp _ hm
  have h2 := hp _ hm'
  show wpAny (model prog w) A (keyLt' (tuples' true) p.1 q.1) (fun r s' => s' = s ∧ r = HT.lexLt (k p.1) (k q.1)) (fun _ _ => False) s
  generalize k p.1 = ns at h1 ⊢
  generalize k q.1 = ms at h2 ⊢
  obtain ⟨a, o, xs, n, e, ho, hc, hd, hi, _⟩ := h1
  obtain ⟨a', o', xs', n', e', ho', hc', hd', hi', _⟩ := h2
  rw [e, e']
  refine PySem.W.kat_lt ho hd ho' hd' (lex_go 0 hi hi' ?_ ⟨rfl, rfl⟩)
  have l1 := hi.length
  have l2 := hi'.length
  rw [Array.length_toList] at l1 l2
  rw [l1, l2]
theorem firsts_of {h : Heap} : ∀ {vs : List Value}, (∀ v ∈ vs, ∃ ns, IntT h v ns) → ∃ fs : List Value, PySem.W.KatTups h vs fs ∧ fs.length = vs.length ∧ ∀ f ∈ fs, ∃ x t, f = Value.int x t
  | [], _ => ⟨[], PySem.W.KatTups.nil, rfl, fun _ hm => by simp at hm⟩
  | v :: vs, hp => by
    obtain ⟨fs, h1, h2, h3⟩ := firsts_of (vs := vs) fun v' hm => hp v' (List.mem_cons_of_mem _ hm)
    obtain ⟨ns, a, o, xs, n, e, ho, hc, hd, hi, hne⟩ := hp v (List.mem_cons_self ..)
    subst e
    obtain ⟨x, t, r, ex⟩ : ∃ x t r, xs.toList = Value.int x t :: r := by
      generalize xs.toList = l at hi
      cases hi with
      | nil => exact absurd rfl hne
      | cons x t r => exact ⟨x, t, _, rfl⟩
    have hx0 : xs[0]? = some (Value.int x t) := by
      rw [← Array.getElem?_toList, ex]
      rfl
    refine ⟨.int x t :: fs, PySem.W.KatTups.cons ho hc hd hx0 h1, by rw [List.length_cons, List.length_cons, h2], fun f hm => ?_⟩
    rcases List.mem_cons.mp hm with rfl | hm
    · exact ⟨x, t, rfl⟩
    · exact h3 f hm
theorem intT_sortable {a : Addr} {vs : List Value} {k : Value → List Int} (h0 : 0 < vs.length) (hp : ∀ v ∈ vs, IntT s.heap v (k v)) (ha : ∀ o, s.heap.get? a = some o → o.cls ≠ .type "tuple") : SrtO.SortableO prog w A s a vs fun v u => HT.lexLt (k v) (k u) := by
  intro h' keep
  have hp' : ∀ v ∈ vs, IntT h' v (k v) := fun v hm => (hp v hm).keeps fun b o e c => keep b o (fun z => by subst z; exact ha o e c) e
  obtain ⟨fs, h1, h2, h3⟩ := firsts_of fun v hm => ⟨_, hp' v hm⟩
  refine ⟨tuples' true, fun Q E hq => ?_, intT_cmp hp'⟩
  refine PySem.W.kat_kind (T := .type "int") h1 (by omega) (fun f hm => ?_) (by rfl) ?_
  · obtain ⟨x, t, rfl⟩ := h3 f hm
    exact PySem.W.Looks.now
  · have e : (Value.type "int" != Value.type "tuple") = true := by first | decide +kernel | rfl | decide
    rw [e]
    exact hq
end

/-! ### the rules -/
section
variable {X : Cx} {tg e : Expr} {td : TE} {apos cpos p pos : Pos}
theorem dT_raw {pins : List (Addr × Obj)} {σ : L2.St} {H : Hp} {s : Shared} {d : Addr} {kvs : List (List L2.Key × V)} (I : Inv X pins σ H s) (hd : H d = some (.dT kvs)) :
    ∃ (o : Obj) (es : Array DictEntry) (ep : Nat) (bs : List Addr), (d == sysModules) = false ∧ s.heap.get? d = some o ∧ o.ExactDict ∧ o.data = .dict es ep ∧ es.size = kvs.length ∧ kvs.length ≤ sizeLine ∧ IsKeys H kvs bs ∧ es.toList.map (·.key) = bs.map Value.ref := by
  obtain ⟨z, hs, ks, pr, o, es, ep, ho, hx, hdt, he, hn⟩ := (show ObjOk X.prog X.w H s.heap d (.dT kvs) from I.hok d _ hd)
  have l1 : es.size = ks.length := size_of_entries he
  have l2 : kvs.length = ks.length := Paired.length pr
  refine ⟨o, es, ep, ks.map fun x => x.2.1, hs, ho, hx, hdt, by omega, z, isKeys_of pr, ?_⟩
  rw [he, List.map_map, List.map_map]
  rfl
/-- e.keys(), called: the view -/
theorem keys_call {R : Addr → List (List L2.Key × V) → Hp → Prop} {Q' : Value → Shared → Prop} {pins : List (Addr × Obj)} {σ : L2.St} {H : Hp} {s : Shared} (he : PE X e td) (I : Inv X pins σ H s)
    (h : td σ H fun x H1 => ∃ d kvs, x = .ref d ∧ H1 d = some (.dT kvs) ∧ R d kvs H1)
    (hQ : ∀ s2 H1 d kvs v, Inv X pins σ H1 s2 → H1 d = some (.dT kvs) → PySem.W.KdlKeysView s2.heap v d → R d kvs H1 → Q' (.ref v) s2)
    (hbase : attributeBase e "keys" X.env (eval e X.env) = eval e X.env := by rfl) (hline : (apos.endLine == cpos.line) = true := by rfl) :
    wpAny (model X.prog X.w) X.A (eval (.Call (.Attribute e "keys" apos) [] [] cpos) X.env) Q' X.xe s := by
  refine wpAny_Call_method (T := "dict") (id := "dict.keys") hbase rfl hline F.plainAttrs_dict F.slot_dict_keys F.type_dict_keys (thn (he.run pins s σ H _ I h) fun u s1 ⟨x, H1, I1, rx, d, kvs, ex, hd, q⟩ => ?_)
  subst ex
  obtain rfl : u = Value.ref d := rx
  obtain ⟨o, es, ep, bs, hs, ho, hx, hdt, hsz, hz, hk, hb⟩ := dT_raw I1 hd
  have raw : DT.Raw s1.heap d es ep := ⟨o, ho, hx, hdt⟩
  refine ⟨raw.typeIs, fun b q => by cases q; exact ⟨o, ho, hx.2.1⟩, ?_⟩
  have I2 : Inv X pins σ H1 { s1 with heap := s1.heap.push { cls := .type "dict_keys", data := .fields #[.ref d] } } := I1.kept (t' := s1.toks) fun b ob q => Heap.get?_push_of_some _ q
  show wpAny _ _ (callWith cpos (.builtin "dict.keys") [.ref d] [] []) _ X.xe s1
  exact method_meetsIn F.slot_dict_keys F.entry_dict_keys rfl (PySem.evalArgs_none ⟨rfl, raw.typeIs, F.args_dict_keys_1 _, _, raw_meets_keys hs, raw, hQ _ H1 d kvs _ I2 hd ⟨_, Heap.get?_push_size _ rfl, rfl, rfl⟩ q⟩)
/-- for k in e.keys(): from then on the dict is locked -/
def iKeysMT (td : TE) : TI := fun σ H R => td σ H fun x H1 => ∃ d kvs, x = .ref d ∧ H1 d = some (.dT kvs) ∧ ∀ od, R (Itkt d od kvs) (upd H1 d (.frz od (.dT kvs)))
theorem pi_keysMT (he : PE X e td) (hbase : attributeBase e "keys" X.env (eval e X.env) = eval e X.env := by rfl) (hline : (apos.endLine == cpos.line) = true := by rfl) : PI X tg (.Call (.Attribute e "keys" apos) [] [] cpos) (iKeysMT td) := by
  refine ⟨fun pins s σ H R I h => ?_⟩
  refine keys_call (R := fun d kvs H1 => ∀ od, R (Itkt d od kvs) (upd H1 d (.frz od (.dT kvs)))) he I h (fun s1 H1 d kvs v I1 hd hv q => ?_) hbase hline
  obtain ⟨od, I2⟩ := I1.lock hd trivial
  have hd2 : upd H1 d (.frz od (.dT kvs)) d = some (.frz od (.dT kvs)) := upd_same
  obtain ⟨hs, hgd, hx, es, ep, hdt, hsz, ent⟩ := I2.frzT hd2
  refine raw_iter_keys hv hgd hdt (pi_one (tk := s1.toks) I2 _ (turn_keysT _ hdt) ⟨_, Heap.get?_push_size _ rfl, rfl, ?_⟩ (q od))
  rw [hsz] <;> rfl
/-- sorted(e.keys()): some arrangement of the keys -/
def tSortedK (td : TE) : TE := fun σ H Q => td σ H fun x H1 => ∃ d kvs, x = .ref d ∧ H1 d = some (.dT kvs) ∧ (∀ kv ∈ kvs, ∃ ns : List Int, ns ≠ [] ∧ kv.1 = ns.map Sum.inl) ∧
  ∀ (kbs bs : List Addr) (p : Addr), IsKeys H1 kvs kbs → bs.Perm kbs → H1 p = none → Q (.ref p) (upd H1 p (.lst (bs.map V.ref)))
theorem refs_of : ∀ {vs : List Value}, (∀ v ∈ vs, ∃ a, v = Value.ref a) → ∃ bs : List Addr, vs = bs.map Value.ref
  | [], _ => ⟨[], rfl⟩
  | v :: vs, h => by
    obtain ⟨a, e⟩ := h v List.mem_cons_self
    obtain ⟨bs, e2⟩ := refs_of (vs := vs) fun u hu => h u (List.mem_cons_of_mem _ hu)
    exact ⟨a :: bs, by rw [e, e2]; rfl⟩
theorem map_ref_inj : ∀ {as bs : List Addr}, as.map Value.ref = bs.map Value.ref → as = bs
  | [], [], _ => rfl
  | [], _ :: _, e => by simp at e
  | _ :: _, [], e => by simp at e
  | a :: as, b :: bs, e => by
    rw [List.map_cons, List.map_cons] at e
    injection e with e1 e2
    injection e1 with e3
    rw [e3, map_ref_inj e2]
theorem perm_refs {bs kbs : List Addr} (h : (bs.map Value.ref).Perm (kbs.map Value.ref)) : bs.Perm kbs := by
  have back : ∀ l : List Addr, (l.map Value.ref).map (fun v => match v with | .ref a => a | _ => 0) = l := fun l => by
    rw [List.map_map]
    have e : ((fun v => match v with | Value.ref a => a | _ => 0) ∘ Value.ref) = (_root_.id : Addr → Addr) := funext fun _ => rfl
    rw [e, List.map_id]
  have q := h.map (fun v => match v with | Value.ref a => a | _ => 0)
  rw [back, back] at q
  exact q
theorem pe_sortedK (hc : X.calm = true) (hg : Gl X "sorted") (hm : X.mg "sorted" = none) (he : PE X e td) (hbase : attributeBase e "keys" X.env (eval e X.env) = eval e X.env := by rfl) (hline : (apos.endLine == cpos.line) = true := by rfl)
    (na : starEach [.Call (.Attribute e "keys" apos) [] [] cpos] X.env = (false, eval (.Call (.Attribute e "keys" apos) [] [] cpos) X.env) :: starEach [] X.env := by rfl) :
    PE X (.Call (.Name "sorted" p) [.Call (.Attribute e "keys" apos) [] [] cpos] [] pos) (tSortedK td) := by
  refine ⟨fun pins s σ H Q I h => ?_⟩
  refine Call_ (ld_blt I hg hm boot_sorted ?_)
  refine PyProof.Rows.callWith_builtin1 (PyProof.Rows.args_cons ?_ na) na rfl
  refine keys_call (R := fun d kvs H1 => (∀ kv ∈ kvs, ∃ ns : List Int, ns ≠ [] ∧ kv.1 = ns.map Sum.inl) ∧ ∀ (kbs bs : List Addr) (p : Addr), IsKeys H1 kvs kbs → bs.Perm kbs → H1 p = none → Q (.ref p) (upd H1 p (.lst (bs.map V.ref)))) he I h (fun s1 H1 d kvs v I1 hd hv q => ?_) hbase hline
  refine PyProof.Rows.args_nil ?_
  obtain ⟨hns, q⟩ := q
  obtain ⟨o, es, ep, kbs, hs, ho, hx, hdt, hsz, hz, hk, hb⟩ := dT_raw I1 hd
  -- which ints a key holds
  have acc_keys : ∀ acc : Array Value, ItemsOf (fun i v => ∃ en : DictEntry, es[i]? = some en ∧ v = en.key) acc es.size → acc.toList = kbs.map Value.ref := fun acc it => by
    rw [← hb]
    apply List.ext_getElem?
    intro j
    rw [List.getElem?_map]
    cases hj : acc.toList[j]? with
    | none =>
      have h1 := List.getElem?_eq_none_iff.mp hj
      rw [Array.length_toList, it.1] at h1
      rw [List.getElem?_eq_none (by rw [Array.length_toList]; exact h1)]
      rfl
    | some v =>
      obtain ⟨en, hen, hv⟩ := it.2 j v (by rw [← Array.getElem?_toList]; exact hj)
      rw [Array.getElem?_toList, hen, hv]
      rfl
  have keyInts : ∀ b ∈ kbs, ∃ ns : List Int, ns ≠ [] ∧ H1 b = some (.tup (ns.map V.int)) := fun b hb' => by
    obtain ⟨j, hj⟩ := List.mem_iff_getElem?.mp hb'
    have hjl : j < kvs.length := by
      have := (List.getElem?_eq_some_iff.mp hj).1
      have hl : kvs.length = kbs.length := Paired.length hk
      omega
    obtain ⟨b', hb2, e⟩ := paired_get hk (List.getElem?_eq_getElem hjl)
    rw [hj] at hb2
    cases hb2
    obtain ⟨ns, hne, ek⟩ := hns _ (List.getElem_mem hjl)
    refine ⟨ns, hne, ?_⟩
    rw [e, ek, List.map_map]
    rfl
  have intT : ∀ b ∈ kbs, ∃ ns : List Int, IntT s1.heap (.ref b) ns := fun b hb' => by
    obtain ⟨ns, hne, e⟩ := keyInts b hb'
    obtain ⟨_, its, rv, ob, h1, h2, n, h3⟩ := I1.hok b _ e
    exact ⟨ns, b, ob, its.toArray, n, rfl, h1, h2, h3, by simpa using Vals.ints rv, hne⟩
  classical
  let k : Value → List Int := fun v => if h : ∃ ns, IntT s1.heap v ns then h.choose else []
  have hkv : ∀ b ∈ kbs, IntT s1.heap (.ref b) (k (.ref b)) := fun b hb' => by
    have h := intT b hb'
    show IntT s1.heap (.ref b) (if h : ∃ ns, IntT s1.heap (.ref b) ns then h.choose else [])
    rw [dif_pos h]
    exact h.choose_spec
  refine kdl_sorted (r := v) (d := d) (ltv := fun v u => HT.lexLt (k v) (k u)) ⟨fun x y => lexLt_swo.asym (k x) (k y), fun x y z => lexLt_swo.tr (k x) (k y) (k z)⟩ (kdl_rawK hdt) (I1.ok.hd hc) ⟨hv, ho⟩ (by omega) (fun s₂ a acc it hL kp h2 => ?_) fun h' tk a acc out it hp kp ha hn => ?_
  · rw [acc_keys acc it] at h2 ⊢
    refine intT_sortable (by omega) (fun u hu => ?_) fun o' e' c => ?_
    · obtain ⟨b, hb', e⟩ := List.mem_map.mp hu
      rw [← e]
      exact (hkv b hb').keeps fun b o q _ => (kp b o q).2
    · rw [acc_keys acc it] at hL
      have e'' := e'.symm.trans hL
      cases e''
      exact absurd (Value.type.inj c) (by decide)
  · rw [acc_keys acc it] at hp
    obtain ⟨bs, eo⟩ := refs_of (vs := out) fun u hu => by
      obtain ⟨b, _, e⟩ := List.mem_map.mp (hp.mem_iff.mp hu)
      exact ⟨b, e.symm⟩
    subst eo
    have hpb := perm_refs hp
    obtain ⟨n, hn⟩ := hn
    have hlen : (bs.map V.ref).length ≤ sizeLine := by
      rw [List.length_map, hpb.length_eq]
      have hl : kvs.length = kbs.length := Paired.length hk
      omega
    exact ⟨.ref a, upd H1 a (.lst (bs.map V.ref)), I1.laid (t' := tk) kp ha ⟨hlen, bs.map Value.ref, n, vals_refs _, hn⟩, rfl, q kbs bs a hk hpb (I1.hok.fresh ha)⟩
end
end Rs


set_option Elab.async false
set_option linter.all false
set_option maxRecDepth 100000
set_option maxHeartbeats 4000000
namespace Rs
open PySem PySem.Spec PyProof.Rows L2

/-! ### d == {}, d != {} -/
section
variable {prog : Program} {w : World} {A : Around} {E : Value → Shared → Prop} {s : Shared} {a b : Addr} {oa ob : Obj} {es : Array DictEntry} {ep ep' : Nat}
theorem same_empty {nm : String} {Q : Bool → Shared → Prop} (ha : (a == sysModules) = false) (hb : (b == sysModules) = false) (hoa : s.heap.get? a = some oa) (hda : oa.data = .dict es ep) (hob : s.heap.get? b = some ob) (hdb : ob.data = .dict #[] ep')
    (h : Q (decide (es.size = 0)) s) : wpAny (model prog w) A (Builtin.Dict.samePairs nm a b) Q E s := by
  unfold Builtin.Dict.samePairs Builtin.Dict.showsAll
  rw [if_neg (show ¬ (a == sysModules) = true by rw [ha]; exact Bool.false_ne_true), if_neg (show ¬ (b == sysModules) = true by rw [hb]; exact Bool.false_ne_true)]
  refine wpAny_bind (wpAny_pure (wpAny_bind (wpAny_pure ?_)))
  refine wpAny_bind (wpAny_dictEntries hoa hda ?_)
  dsimp only
  refine wpAny_bind (wpAny_dictEntries hob hdb ?_)
  by_cases hsz : es.size = 0
  case neg =>
    rw [if_pos (by simpa using hsz)]
    rw [decide_eq_false hsz] at h
    exact wpAny_bind (wpAny_rule (wpAny_pure h))
  case pos =>
    rw [decide_eq_true hsz] at h
    rw [if_neg (by rw [hsz]; simp)]
    refine wpAny_bind (wpAny_dictEpoch hoa hda ?_)
    refine wpAny_bind ?_
    rw [Std.Legacy.Range.forIn_eq_forIn_range']
    simp only [Std.Legacy.Range.size, Nat.sub_zero, Nat.add_sub_cancel, Nat.div_one, hsz]
    refine wpAny_forIn_list _ (fun rest q s' => s' = s ∧ q = (none, ()) ∧ rest = []) _ ?_ ?_ _ _ ⟨rfl, rfl, rfl⟩
    · rintro x rest q s' ⟨_, _, e⟩
      cases e
    · rintro q s' ⟨rfl, rfl, _⟩
      exact wpAny_pure h
theorem rc_eq_empty (ha : (a == sysModules) = false) (hb : (b == sysModules) = false) (hoa : s.heap.get? a = some oa) (hxa : oa.ExactDict) (hda : oa.data = .dict es ep) (hob : s.heap.get? b = some ob) (hxb : ob.ExactDict) (hdb : ob.data = .dict #[] ep')
    (hu : A.units < cLine) {Q : Value → Shared → Prop} (h : Q (.bool (decide (es.size = 0))) s) : wpAny (model prog w) A (richCompare .Eq (.ref a) (.ref b)) Q E s := by
  have ta : s.TypeIs (.ref a) "dict" := ⟨oa, hoa, hxa.1⟩
  have tb : s.TypeIs (.ref b) "dict" := ⟨ob, hob, hxb.1⟩
  refine wpAny_richCompare_same_room (op := .Eq) ta tb PySem.F.slot_dict_eq (wpAny_call_entry PySem.F.slot_dict_eq ta PySem.F.entry_dict_eq ?_ (PySem.F.args_dict_eq_2 _ _)) hu
  show wpAny _ _ (Builtin.Dict.dictSlotArgs "__eq__" ⟨[.ref a, .ref b], []⟩ >>= _) _ _ s
  refine wpAny_bind ?_
  unfold Builtin.Dict.dictSlotArgs
  refine wpAny_bind (wpAny_notOrdered_dict ta ?_)
  show wpAny _ _ (pure (Value.ref a, Value.ref b)) _ _ s
  refine wpAny_pure ?_
  refine wpAny_bind (wpAny_isInstance (T := "dict") tb PySem.F.sub_dict_dict ?_)
  simp only [Bool.not_true, Bool.false_eq_true, if_false]
  refine wpAny_bind (wpAny_pure (wpAny_bind (wpAny_pure ?_)))
  refine wpAny_bind (same_empty ha hb hoa hda hob hdb ?_)
  refine wpAny_pure ⟨_, rfl, ?_, ?_⟩
  · exact fun x => nomatch x
  · simpa using h
theorem rc_ne_empty (ha : (a == sysModules) = false) (hb : (b == sysModules) = false) (hoa : s.heap.get? a = some oa) (hxa : oa.ExactDict) (hda : oa.data = .dict es ep) (hob : s.heap.get? b = some ob) (hxb : ob.ExactDict) (hdb : ob.data = .dict #[] ep')
    (hu : A.units < cLine) {Q : Value → Shared → Prop} (h : Q (.bool (!decide (es.size = 0))) s) : wpAny (model prog w) A (richCompare .NotEq (.ref a) (.ref b)) Q E s := by
  have ta : s.TypeIs (.ref a) "dict" := ⟨oa, hoa, hxa.1⟩
  have tb : s.TypeIs (.ref b) "dict" := ⟨ob, hob, hxb.1⟩
  refine wpAny_richCompare_same_room (op := .NotEq) ta tb PySem.F.slot_dict_ne (wpAny_call_entry PySem.F.slot_dict_ne ta PySem.F.entry_dict_ne ?_ (PySem.F.args_dict_ne_2 _ _)) hu
  show wpAny _ _ (Builtin.Dict.dictSlotArgs "__ne__" ⟨[.ref a, .ref b], []⟩ >>= _) _ _ s
  refine wpAny_bind ?_
  unfold Builtin.Dict.dictSlotArgs
  refine wpAny_bind (wpAny_notOrdered_dict ta ?_)
  show wpAny _ _ (pure (Value.ref a, Value.ref b)) _ _ s
  refine wpAny_pure ?_
  refine wpAny_bind (wpAny_isInstance (T := "dict") tb PySem.F.sub_dict_dict ?_)
  simp only [Bool.not_true, Bool.false_eq_true, if_false]
  refine wpAny_bind (wpAny_pure (wpAny_bind (wpAny_pure ?_)))
  refine wpAny_bind (same_empty ha hb hoa hda hob hdb ?_)
  refine wpAny_pure ⟨_, rfl, ?_, ?_⟩
  · exact fun x => nomatch x
  · cases q : decide (es.size = 0) with
    | true =>
      rw [q] at h
      exact h
    | false =>
      rw [q] at h
      exact h
end
section
variable {X : Cx}
/-- a dict with tuple keys against a new empty one -/
def rEqE : R2 := fun x y H Q => ∃ a b kvs, x = .ref a ∧ y = .ref b ∧ H a = some (.dT kvs) ∧ H b = some (.dT []) ∧ Q (.bl (decide (kvs = []))) H
def rNeE : R2 := fun x y H Q => ∃ a b kvs, x = .ref a ∧ y = .ref b ∧ H a = some (.dT kvs) ∧ H b = some (.dT []) ∧ Q (.bl (!decide (kvs = []))) H
theorem dec_size {kvs : List (List L2.Key × V)} {n : Nat} (h : n = kvs.length) : decide (n = 0) = decide (kvs = []) := by
  subst h
  cases kvs with
  | nil => rfl
  | cons _ _ => rfl
theorem dict0 {b : Addr} {pins : List (Addr × Obj)} {σ : L2.St} {H : Hp} {s : Shared} (I : Inv X pins σ H s) (hb : H b = some (.dT [])) : ∃ ob ep', (b == sysModules) = false ∧ s.heap.get? b = some ob ∧ ob.ExactDict ∧ ob.data = .dict #[] ep' := by
  obtain ⟨ob, es', ep', _, hs', ho', hx', hdt', hsz', _⟩ := dT_raw I hb
  have e : es' = #[] := Array.eq_empty_of_size_eq_zero hsz'
  subst e
  exact ⟨ob, ep', hs', ho', hx', hdt'⟩
theorem op_eqE (hu : X.A.units < cLine) : OpR X (compareOp .Eq) rEqE := by
  intro pins s σ H x y v u Q I rx ry h
  obtain ⟨a, b, kvs, rfl, rfl, ha, hb, q⟩ := h
  cases rx
  cases ry
  obtain ⟨o, es, ep, bs, hs, ho, hx, hdt, hsz, _⟩ := dT_raw I ha
  obtain ⟨ob, ep', hs', ho', hx', hdt'⟩ := dict0 I hb
  refine (rc_eq_empty hs hs' ho hx hdt ho' hx' hdt' hu ?_ : wpAny (model X.prog X.w) X.A (richCompare .Eq (.ref a) (.ref b)) _ X.xe s)
  rw [dec_size hsz]
  exact ⟨.bl _, H, I, rfl, q⟩
theorem op_neE (hu : X.A.units < cLine) : OpR X (compareOp .NotEq) rNeE := by
  intro pins s σ H x y v u Q I rx ry h
  obtain ⟨a, b, kvs, rfl, rfl, ha, hb, q⟩ := h
  cases rx
  cases ry
  obtain ⟨o, es, ep, bs, hs, ho, hx, hdt, hsz, _⟩ := dT_raw I ha
  obtain ⟨ob, ep', hs', ho', hx', hdt'⟩ := dict0 I hb
  refine (rc_ne_empty hs hs' ho hx hdt ho' hx' hdt' hu ?_ : wpAny (model X.prog X.w) X.A (richCompare .NotEq (.ref a) (.ref b)) _ X.xe s)
  rw [dec_size hsz]
  exact ⟨.bl _, H, I, rfl, q⟩
end

/-! ### enumerate(a tuple) -/
open AutoSeq1 (wpAny_loadPart') in
theorem meets_enumerate_newT (l : Addr) (items : Array Value) (n : Nat) (dct : Option Addr) (sl : Array (Option Value)) :
    Meets (Builtin.«enumerate.__new__» ⟨[.type "enumerate", .ref l], []⟩) (fun _ R s => s.heap.get? l = some { cls := .type "tuple", dict := dct, data := .seq items n, slots := sl } ∧
      R (.ok (.ret (.ref (s.heap.push { cls := .type "tuple_iterator", data := .fields #[.ref l, .int 0 0] }).objs.size)))
        { s with heap := (s.heap.push { cls := .type "tuple_iterator", data := .fields #[.ref l, .int 0 0] }).push { cls := .type "enumerate", data := .fields #[.none, .bool false, .ref s.heap.objs.size, rawInt 0, .none, .none] } }) :=
  .of_wp fun prog w A R s h => by
    obtain ⟨hp, g, d, tk, os⟩ := s; obtain ⟨hl, h⟩ := h
    have hsub := sub_enumerate
    have hL : Heap.IsTuple (Shared.heap ⟨hp, g, d, tk, os⟩) l items := ⟨_, hl, rfl, n, rfl⟩
    wp_walk using wpAny_loadPart' hl
    refine wpAny_stack_any fun st => wpAny_pure ?_
    split
    · rename_i c _ _ _ _ _
      cases (c == Value.type "enumerate")
      · wp_walk using wpAny_loadPart' hl, wpAny_pyIter_tuple hL
        exact ⟨_, rfl, h⟩
      · wp_walk using wpAny_loadPart' hl, wpAny_pyIter_tuple hL
        exact ⟨_, rfl, h⟩
    · wp_walk using wpAny_loadPart' hl, wpAny_pyIter_tuple hL
      exact ⟨_, rfl, h⟩
section
variable {prog : Program} {w : World} {A : Around} {E : Value → Shared → Prop} {s : Shared}
theorem call_enumerate_tuple {l : Addr} {items : Array Value} {Q : Value → Shared → Prop} (hL : s.heap.IsTuple l items)
    (h : ∀ h', IsEnum h' (s.heap.objs.size + 1) s.heap.objs.size 0 .none → h'.IsTupleIter s.heap.objs.size l 0 → h'.objs.size = s.heap.objs.size + 2 →
      (∀ b o, s.heap.get? b = some o → h'.get? b = some o) → Q (.ref (s.heap.objs.size + 1)) { s with heap := h' }) :
    wpAny (model prog w) A (call (.type "enumerate") [.ref l]) Q E s := by
  obtain ⟨⟨c, dct, dt, sl⟩, hl, hc, n, hd⟩ := hL
  replace hc : c = .type "tuple" := hc
  replace hd : dt = .seq items n := hd
  subst hc hd
  refine callType_new F.called_enumerate (by decide) (F.typeCall_enumerate_1 _) (F.newCall_enumerate_1 _) (fun obj => F.args_object_init_2 obj _) F.entry_enumerate_new
    (meets_enumerate_newT l items n dct sl) ⟨hl, ?_⟩
  have hz : (s.heap.push { cls := .type "tuple_iterator", data := .fields #[.ref l, .int 0 0] }).objs.size = s.heap.objs.size + 1 := Heap.size_push ..
  show _ ∧ _
  rw [hz]
  have he : IsEnum ((s.heap.push { cls := .type "tuple_iterator", data := .fields #[.ref l, .int 0 0] }).push
      { cls := .type "enumerate", data := .fields #[.none, .bool false, .ref s.heap.objs.size, rawInt 0, .none, .none] }) (s.heap.objs.size + 1) s.heap.objs.size 0 .none := by
    have := Heap.get?_push_size (s.heap.push { cls := .type "tuple_iterator", data := .fields #[.ref l, .int 0 0] })
      (o := { cls := .type "enumerate", data := .fields #[.none, .bool false, .ref s.heap.objs.size, rawInt 0, .none, .none] }) rfl
    rw [hz] at this; exact this
  refine ⟨⟨_, he, rfl⟩, h _ he ⟨_, Heap.get?_push_of_some _ (Heap.get?_push_size _ rfl), rfl, rfl⟩ (by rw [Heap.size_push, hz]) fun b o x => Heap.get?_push_of_some _ (Heap.get?_push_of_some _ x)⟩
end
/-- the tuple at a, each item in a new pair -/
def IteT (K : PySem.W.Frag) (a : Addr) : It :=
  ⟨fun i H => ∃ (xs : List V) (x : V), SqT K H a xs ∧ xs[i]? = some x, fun i H v H' => ∃ T x, v = .ref T ∧ H T = none ∧ H' = upd H T (.tup [.int (i : Nat), x]) ∧ ∀ xs, SqT K H a xs → xs[i]? = some x, fun i H => ∃ xs : List V, SqT K H a xs ∧ xs.length ≤ i⟩
theorem turn_enumT {P : Program} {w : World} {K : PySem.W.Frag} {elts : List Expr} {kk : Nat} {tpos : Pos} (a e it : Addr) :
    Turn P w K (.Tuple elts kk tpos) (IteT K a) [e, it] e (fun i h => (∃ old, IsEnum h e it ((i : Nat) : Int) old) ∧ h.IsTupleIter it a i ∧ e ≠ it ∧ a ≠ it ∧ e ≠ a) where
  mem := by simp
  obj := fun i h st b hb => by
    obtain ⟨⟨old, he⟩, ⟨o, ho, hc, hd⟩, _⟩ := st
    have e' : b = e ∨ b = it := by simpa using hb
    rcases e' with z | z
    · rw [z]; exact ⟨_, he, fun v q => nomatch q⟩
    · rw [z]; exact ⟨o, ho, fun v q => by rw [hd] at q; cases q⟩
  keep := fun i h h' st k => let ⟨⟨old, he⟩, hi, hne⟩ := st; ⟨⟨old, k e (by simp) _ he⟩, hi.at fun o q => k it (by simp) o q, hne⟩
  item := by
    intro X hP hw hK hc i pins s σ H E I hf st hg
    subst hP hw hK
    obtain ⟨⟨old, he⟩, hit, hne, hai, hea⟩ := st
    obtain ⟨xs, x, hq, hx⟩ := hg
    obtain ⟨its, rv, p, hz⟩ := I.tuple hq
    obtain ⟨u, hu, ru⟩ := rv.get hx
    have hel : e < s.heap.objs.size := Heap.lt_size he
    have hil : it < s.heap.objs.size := by obtain ⟨_, q, _⟩ := hit; exact Heap.lt_size q
    have hit2 : s.heap.IsTuple a its.toArray := p
    have hui : its.toArray[i]? = some u := by simpa using hu
    have hlt : i < its.toArray.size := (Array.getElem?_eq_some_iff.mp hui).1
    refine wpAny_pyNext_enum_itemD (Draws.tuple (A := X.A.in1) (show X.A.in1.handled = none from I.ok.hd hc) it a hai its.toArray) he ⟨hit, hit2⟩ hlt hne (by simp [hne, hea]) fun x' h' tk hP' ho hit' hT hsz hk => ?_
    have hxu : x' = u := Option.some.inj (hP'.symm.trans hui)
    subst hxu
    refine ⟨_, rfl, wpAny_letOwnedTupleGo_enum (s := { s with heap := h', toks := tk + 1 }) ho fun h'' he' sb => ?_⟩
    have hT2 : h''.get? s.heap.objs.size = some { cls := .type "tuple", data := .seq #[.int i tk, x'] } := (sb.2 _ (Nat.ne_of_gt hel)).trans hT
    have new : ObjOk X.prog X.w (upd H s.heap.objs.size (.tup [.int (i : Nat), x])) h'' s.heap.objs.size (.tup [.int (i : Nat), x]) :=
      ⟨by show 2 ≤ sizeLine; decide, [.int i tk, x'], .cons ⟨_, rfl⟩ (.cons ru .nil), ⟨_, hT2, rfl, _, rfl⟩⟩
    have I1 : Inv X pins σ (upd H s.heap.objs.size (.tup [.int (i : Nat), x])) { s with heap := h'', toks := tk + 1 } :=
      I.turnedNew (ch := [e, it]) (fun b ob hb q => (sb.2 b (fun z => hb (by simp [z]))).trans (hk b ob (fun z => hb (by simp [z])) (fun z => hb (by simp [z])) q)) hf (Nat.le_refl _) new
    refine ⟨.ref s.heap.objs.size, _, I1, rfl, ⟨_, x, rfl, I.hok.fresh (Nat.le_refl _), rfl, fun ys hy => by rw [I.tuple_inj hy hq]; exact hx⟩, ⟨⟨x', ?_⟩, hit'.1.at fun o q => (sb.2 it (Ne.symm hne)).trans q, hne, hai, hea⟩, fun b hb => ?_⟩
    · have e1 : ((i + 1 : Nat) : Int) = (i : Int) + 1 := by omega
      rw [e1]; exact he'
    · have hb' : b < s.heap.objs.size := by
        have e' : b = e ∨ b = it := by simpa using hb
        rcases e' with z | z
        · rw [z]; exact hel
        · rw [z]; exact hil
      rw [upd_ne (Nat.ne_of_lt hb')]
      exact (hf b hb).1
  done := by
    intro X hP hw hK hc i pins s σ H E I hf st hg
    subst hP hw hK
    obtain ⟨⟨old, he⟩, hit, hne, hai, hea⟩ := st
    obtain ⟨xs, hq, hx⟩ := hg
    obtain ⟨its, rv, p, hz⟩ := I.tuple hq
    obtain ⟨f0, f1, f2, f3, f4, f5⟩ := hf it (by simp)
    have hl := rv.length
    have hT : s.TypeIs (.ref e) "enumerate" := ⟨_, he, rfl⟩
    unfold pyNext
    refine wpAny_bind (wpAny_attempt (wpAny_callSpecial?_slot (name := Str.ofString "__next__") hT F.slot_enumerate_next
      (wpAny_call_entry F.slot_enumerate_next hT F.entry_enumerate_next ?_ (F.args_enumerate_next_1 _))))
    show wpAny _ _ (field (.ref e) 2 >>= _) _ _ _
    refine wpAny_bind (wpAny_field he rfl (x := .ref it) rfl ?_)
    have hh : X.A.in1.handled = none := I.ok.hd hc
    refine wpAny_bind (wpAny_nextOf_tuple_end hh hit (show s.heap.IsTuple a its.toArray from p) (by simp; omega) fun h' x he' hx' => ?_)
    obtain ⟨o, ho, hc⟩ := hx'
    refine wpAny_bind (wpAny_isInstance (T := "StopIteration") (b := true) ⟨o, ho, hc⟩ isSubtype_stop ?_)
    exact wpAny_pure ⟨rfl, I.turned (t' := s.toks) (fun b o hb q => he' b o hb q) f0 f1 f3 f4 f5⟩
  self := fun A i s Q E st h => let ⟨⟨_, he⟩, _⟩ := st; wpAny_pyIter_enum he h
def iEnumT (K : PySem.W.Frag) (ta : TA) : TI := fun σ H R => ta σ H fun vs H1 => ∃ a xs, vs = [.ref a] ∧ SqT K H1 a xs ∧ R (IteT K a) H1
theorem pi_enumT {X : Cx} {e : Expr} {ta : TA} {p pos tpos : Pos} {elts : List Expr} {kk : Nat} (hg : Gl X "enumerate") (hm : X.mg "enumerate" = none) (ha : PA X [e] ta) (hs : starEach [e] X.env = [(false, eval e X.env)] := by rfl) :
    PI X (.Tuple elts kk tpos) (.Call (.Name "enumerate" p) [e] [] pos) (iEnumT X.K ta) := by
  refine ⟨fun pins s σ H R I h => ?_⟩
  refine Call_ (ld_blt I hg hm boot_enumerate (PyProof.Rows.callWith_type1 (thn (ha.run pos pins s σ H _ I h) fun us s1 ⟨vs, H1, I1, r1, q1⟩ => ?_) hs rfl))
  obtain ⟨a, xs, ex, hq, q⟩ := q1
  subst ex
  cases r1 with
  | cons r rr =>
    cases rr
    cases r
    obtain ⟨its, rv, p', hz⟩ := I1.tuple hq
    have hlt : a < s1.heap.objs.size := by obtain ⟨o, ho, _⟩ := _root_.id p'; exact Heap.lt_size ho
    refine call_enumerate_tuple (show s1.heap.IsTuple a its.toArray from p') fun h' he hit hsz hk => wpAny_pyIter_enum he ?_
    have I2 : Inv X pins σ H1 { s1 with heap := h' } := I1.kept (t' := s1.toks) hk
    refine ⟨s1.heap.objs.size + 1, [s1.heap.objs.size + 1, s1.heap.objs.size], _, _, H1, rfl, I2, turn_enumT a (s1.heap.objs.size + 1) s1.heap.objs.size, ⟨⟨.none, he⟩, hit, Nat.succ_ne_self _, Nat.ne_of_lt hlt, Nat.ne_of_gt (Nat.lt_succ_of_lt hlt)⟩, fun b hb => ?_, q⟩
    have e' : b = s1.heap.objs.size + 1 ∨ b = s1.heap.objs.size := by simpa using hb
    have hle : s1.heap.objs.size ≤ b := by
      rcases e' with z | z
      · rw [z]; exact Nat.le_add_right _ _
      · rw [z]; exact Nat.le_refl _
    exact I1.fpOk hle (I1.hok.fresh hle)
/-- a loop over enumerate of a tuple -/
theorem for_enumT {K : PySem.W.Frag} {a : Addr} {xs : List V} {g : TG} {tb : TS} {D : Ends} {σ : L2.St} {H : Hp} (Pv : Nat → L2.St → Hp → Prop) (h0 : Pv 0 σ H) (hq : ∀ i σ H, Pv i σ H → SqT K H a xs)
    (hs : ∀ (i : Nat) (x : V) (T : Addr) (σ : L2.St) (H : Hp), xs[i]? = some x → Pv i σ H → H T = none → g (.ref T) σ (upd H T (.tup [.int (i : Nat), x])) fun σ2 H2 => tb { D with nx := Pv (i + 1), ct := Pv (i + 1), bk := D.nx } σ2 H2) (hd : ∀ σ H, Pv xs.length σ H → D.nx σ H) :
    ∃ W : Nat → Nat → L2.St → Hp → Prop, (∃ m, W 0 m σ H) ∧ ∀ i m σ H, W i m σ H →
      ((IteT K a).stop i H ∧ D.nx σ H) ∨ ((IteT K a).go i H ∧ ∃ N : L2.St → Hp → Prop, (∀ σ' H', N σ' H' → ∃ m', m' < m ∧ W (i + 1) m' σ' H') ∧ ∀ v H', (IteT K a).yld i H v H' → g v σ H' fun σ2 H2 => tb { D with nx := N, ct := N, bk := D.nx } σ2 H2) := by
  refine ⟨fun i m σ H => m = xs.length - i ∧ i ≤ xs.length ∧ Pv i σ H, ⟨xs.length, rfl, Nat.zero_le _, h0⟩, ?_⟩
  rintro i m σ H ⟨rfl, hi, p⟩
  have qx := hq i σ H p
  by_cases hlt : i < xs.length
  · have hx : xs[i]? = some xs[i] := List.getElem?_eq_getElem hlt
    refine .inr ⟨⟨xs, _, qx, hx⟩, Pv (i + 1), fun σ' H' p' => ⟨xs.length - (i + 1), by omega, rfl, hlt, p'⟩, fun v H' y => ?_⟩
    obtain ⟨T, x, e, hT, e2, hy⟩ := y
    subst e e2
    exact hs i x T σ H (hy xs qx) p hT
  · have e : i = xs.length := by omega
    subst e
    exact .inl ⟨⟨xs, qx, Nat.le_refl _⟩, hd σ H p⟩

/-! ### len(set(a tuple of unlike ints)) -/
def tLenSetT (K : PySem.W.Frag) (ta : TE) : TE := fun σ H Q => ta σ H fun x H1 => ∃ (l : Addr) (ns : List Int), x = .ref l ∧ SqT K H1 l (ns.map V.int) ∧ ns.Nodup ∧ ns.length ≤ 4000 ∧ Q (.int (ns.length : Nat)) H1
theorem pe_lenSetT {X : Cx} {a : Expr} {ta : TE} {p p2 q pos : Pos} (hg : Gl X "len") (hm : X.mg "len" = none) (hg2 : Gl X "set") (hm2 : X.mg "set" = none) (ha : PE X a ta) (hc : X.calm = true := by rfl)
    (na : starEach [a] X.env = (false, eval a X.env) :: starEach [] X.env := by rfl) : PE X (.Call (.Name "len" p) [.Call (.Name "set" p2) [a] [] q] [] pos) (tLenSetT X.K ta) := by
  refine ⟨fun pins s σ H Q I h => ?_⟩
  refine Call_ (ld_blt I hg hm boot_len ?_)
  refine PyProof.Rows.callWith_builtin1 (PyProof.Rows.args_cons ?_ rfl) rfl rfl
  refine Call_ (ld_blt I hg2 hm2 boot_set ?_)
  refine PyProof.Rows.callWith_type1 (PyProof.Rows.args_cons (thn (ha.run pins s σ H _ I h) fun v s1 ⟨x, H1, I1, r1, q1⟩ => PyProof.Rows.args_nil ?_) na) na rfl
  obtain ⟨l, ns, rfl, hq, hnd, hl, q1⟩ := q1
  cases r1
  obtain ⟨its, r, pl, hz⟩ := I1.tuple hq
  refine call_set_tupI ns (I1.ok.hd hc) (show s1.heap.IsTuple l its.toArray from pl) (by simpa using Vals.ints r) (by unfold scanBound; omega) fun h' tk c hS hc' hk => ?_
  refine PyProof.Rows.args_nil ?_
  have hcn : c = ns.length := by
    obtain ⟨o, es, ep, t, _, _, _, _, nd, hm', _, _, hn, _⟩ := _root_.id hS
    have e1 : (es.toList.map keyOf).length = c := by rw [List.length_map, Array.length_toList, hn]
    have hmem : ∀ k, k ∈ ns ↔ k ∈ es.toList.map keyOf := fun k => by
      have := hm' k
      rw [decide_eq_true_eq] at this
      exact this
    have a1 := nodup_le hnd fun x hx => (hmem x).mp hx
    omega
  obtain ⟨o, es, ep, t, ho, hex, hd, _, _, _, hf, hff, hn, _⟩ := hS
  have I2 : Inv X pins σ H1 { s1 with heap := h', toks := tk } := I1.kept fun b o e => hk b o e
  exact call_len_set ho hex hd hff (by rw [hn, hcn] <;> omega) ⟨.int ns.length, H1, I2.tok _, ⟨_, by rw [hn, hcn]⟩, q1⟩
end Rs


set_option Elab.async false
set_option linter.all false
set_option maxRecDepth 100000
set_option maxHeartbeats 4000000
/-! all(elt for x in t), t a tuple; all(elt for a, b in zip(t, u)) -/
namespace Rs
open PySem PySem.Spec PyProof.Rows L2
/-- the element at place i, a bool; it may call defs -/
def EltG (X : Cx) (s1 : Shared) (P : Addr) (scope : Scope) (x : Str) (elt : Expr) (vs : List V) (pb : Nat → Bool) : Prop :=
  ∀ (code : Value) (C : Addr) (A' : Around) (E' : Value → Shared → Prop) (i : Nat) (v : V) (u : Value) (s₂ : Shared) (m₂ : Str → Option Value),
    A'.handled = none → A'.depth ≤ X.A.depth + 1 → A'.units ≤ X.A.units + 8 → vs[i]? = some v → RelV v u → s₂.heap.Ns C m₂ → m₂ x = some u →
    (∀ b o, b ≠ P → s1.heap.get? b = some o → s₂.heap.get? b = some o) →
    wpAny (model X.prog X.w) A' (eval elt (genEnv scope (cloFrom X.env.cells scope.names []) C code builtinsNs X.env)) (fun y s₃ => y = .bool (pb i) ∧ Keeps s₂ s₃) E' s₂
def ReadyT (X : Cx) (pins : List (Addr × Obj)) (σ : L2.St) (H1 : Hp) (P : Addr) (n : Nat) (pb : Nat → Bool) (g : Addr) (s5 : Shared) : Prop :=
  ∃ (fp wr : List Addr) (G : Array GenState → Array GenState → Prop) (F : Nat → Value → Prop) (St : Nat → Shared → Prop),
    WalksS X.prog X.w X.A.in1 g fp wr G n F St ∧ St 0 s5 ∧ TruthOf X.prog X.w X.A.in1 F pb ∧ ∀ s', Moved wr G s5 s' → ∃ H2, GxR.Tabbed P H1 H2 ∧ Inv X pins σ H2 s'
section
variable {X : Cx} {pins : List (Addr × Obj)} {σ : L2.St} {H : Hp} {s : Shared}
theorem gen_tup {c P : Addr} {elt iter : Expr} {x : Str} {px gpos : Pos} {scope : Scope} {te : TE} {k : Nat} {Q' : Value → Shared → Prop} {R : List V → (Nat → Bool) → Hp → Prop}
    (hr : Room k X.A) (TB : GxR.TabB X.base X.mg c P) (hcode : X.env.code = .ref c) (S : GxR.GenS X.env scope x) (hi : PE X iter te)
    (hel : ∀ s1 H1 vs pb, Inv X pins σ H1 s1 → H1 P ≠ none → R vs pb H1 → EltG X s1 P scope x elt vs pb)
    (hs : ∀ v, genFold iter X.env v = pure v) (I : Inv X pins σ H s) (h : te σ H fun v H1 => ∃ (yl : Addr) (vs : List V) (pb : Nat → Bool), v = .ref yl ∧ SqT X.K H1 yl vs ∧ GxR.TabG H1 P ∧ R vs pb H1)
    (hQ : ∀ vs pb H1 g s5, R vs pb H1 → ReadyT X pins σ H1 P vs.length pb g s5 → Q' (.ref g) s5) :
    wpAny (model X.prog X.w) X.A (eval (.GeneratorExp elt [⟨.Name x px, iter, [], 0⟩] scope gpos) X.env) Q' X.xe s := by
  refine wpAny_GeneratorExp_walksQD hr.hd S.co (closure_ok S.free) S.cell S.dot S.loc S.kind (by have := hr.dp; omega) ?_ hs
  refine thn (hi.run pins s σ H _ I h) fun xv s1 ⟨v, H1, I1, r1, q1⟩ => ?_
  obtain ⟨yl, vs, pb, rfl, hyl, ⟨ps, hP, ht⟩, q1⟩ := q1
  obtain rfl : xv = Value.ref yl := r1
  obtain ⟨its, rv, hl, hz⟩ := I1.tuple hyl
  have hIL : s1.heap.IsTuple yl its.toArray := hl
  have hlen : its.length = vs.length := by rw [← rv.length]
  have hElt := hel s1 H1 vs pb I1 (by rw [hP]; exact fun z => nomatch z) q1
  refine wpAny_pyIter_tuple hIL ?_
  generalize ho : ({ cls := .type "tuple_iterator", data := .fields #[.ref yl, .int 0 0] } : Obj) = o
  have hitr : (s1.heap.push o).IsTupleIter s1.heap.objs.size yl 0 := by
    subst ho
    exact ⟨_, Heap.get?_push_size _ rfl, rfl, rfl⟩
  have hylt : yl < s1.heap.objs.size := by
    obtain ⟨_, e, _⟩ := _root_.id hIL
    exact Heap.lt_size e
  have hPs : s1.heap.get? P = some { cls := .none, data := .fields ps } := I1.hok P _ hP
  have hPlt : P < s1.heap.objs.size := Heap.lt_size hPs
  have hP2 : (s1.heap.push o).get? P = some { cls := .none, data := .fields ps } := Heap.get?_push_of_some _ hPs
  have cd : PySem.W.CodeHd (s1.heap.push o) c P := TB.code.keeps fun b u e => Heap.get?_push_of_some _ (I1.bk b u e)
  have lim2 : (s1.heap.push o).NoLimit := I1.nolimit.push o
  have cont : ∀ (code : Value) (h3 : Heap) (tk : Nat) (ps' : Array Value), Heap.ExtBut P (s1.heap.push o) h3 → (s1.heap.push o).objs.size ≤ h3.objs.size → h3.get? P = some { cls := .none, data := .fields ps' } → (∃ more, ps' = ps ++ more) → TriplesOk ps'.toList →
      wpAny (model X.prog X.w) X.A (builtinsFor X.env.globals X.env.builtins) (fun bi s₄ =>
        ∃ Ia fp wr n₀ Pf St₀ pz F, Value.ref s1.heap.objs.size = .ref Ia ∧ (∀ A' : Around, A'.handled = none → Walks X.prog X.w A' Ia fp wr n₀ Pf St₀) ∧ St₀ 0 s₄.heap ∧ (∀ b ∈ fp, b < s₄.heap.objs.size) ∧ s₄.heap.NoLimit ∧ cStatics ∉ wr ∧
          (∀ href : Heap, (∀ b o, s₄.heap.get? b = some o → href.get? b = some o) →
            QuietGenD X.prog X.w (genEnv scope (cloFrom X.env.cells scope.names []) s₄.heap.objs.size code bi X.env) x [] elt (List.range s₄.heap.objs.size) wr Pf pz F href (X.A.depth + 1) (X.A.units + 8)) ∧
          (∀ a h₅ tk gs, gs.bare = true → s₄.heap.objs.size < a → h₅.objs.size = a + 1 → (∀ b o, s₄.heap.get? b = some o → h₅.get? b = some o) →
            WalksS X.prog X.w X.A.in4 a (a :: s₄.heap.objs.size :: List.range s₄.heap.objs.size) (s₄.heap.objs.size :: wr) (GenOnlyQ s₄.gens.size) (passing pz n₀ 0).length
              (fun j y => ∃ i, (passing pz n₀ 0)[j]? = some i ∧ F i y) (GenAt X.prog X.w X.A.in4 a s₄.gens.size s₄.heap.objs.size (List.range s₄.heap.objs.size) wr pz n₀ F) →
            GenAt X.prog X.w X.A.in4 a s₄.gens.size s₄.heap.objs.size (List.range s₄.heap.objs.size) wr pz n₀ F 0 { s₄ with gens := s₄.gens.push gs, toks := tk, heap := h₅ } →
            Q' (.ref a) { s₄ with gens := s₄.gens.push gs, toks := tk, heap := h₅ })) X.xe { s1 with heap := h3, toks := tk } := by
    intro code h3 tk ps' hx hsz hP3 hmore ht3
    obtain ⟨bm, ob, e1, e2, e3, e4, e5, e6, e7, e8⟩ := TB.bm
    have hcP : cStatics ≠ P := fun e => by
      obtain ⟨_, hns, _⟩ := I1.nolimit
      obtain ⟨o', es, ep, ho, hd, _⟩ := hns
      rw [e, hPs] at ho
      cases ho
      cases hd
    have hcl : cStatics < s1.heap.objs.size := let ⟨_, hns, _⟩ := I1.nolimit; hns.lt
    have sz2 : (s1.heap.push o).objs.size = s1.heap.objs.size + 1 := Heap.size_push ..
    have keep3 : ∀ b u, b ≠ P → s1.heap.get? b = some u → h3.get? b = some u := fun b u hb e => hx b u hb (Heap.get?_push_of_some _ e)
    refine wpAny_builtinsFor (m := X.mg) (by rw [I1.ok.glob]; exact ((I1.mod.glob.keeps I1.bk).push o).extBut hx TB.gP) e1 e2 (keep3 _ _ e4 (I1.bk _ _ e5)) e6 e7 e8 ?_
    have hylP : yl ≠ P := fun z => by
      obtain ⟨_, e, hc1, _, hd1⟩ := _root_.id hIL
      rw [z, hPs] at e
      cases e
      cases hd1
    have hIL3 : h3.IsTuple yl its.toArray := by
      obtain ⟨ob, e, r⟩ := _root_.id hIL
      exact ⟨ob, keep3 _ _ hylP e, r⟩
    have hItr3 : h3.IsTupleIter s1.heap.objs.size yl 0 := hitr.at fun u e => hx _ u (Nat.ne_of_gt hPlt) e
    refine ⟨s1.heap.objs.size, [s1.heap.objs.size, yl], [s1.heap.objs.size], its.toArray.size, (fun i v => its.toArray[i]? = some v), (fun i h => h.IsTupleIter s1.heap.objs.size yl i ∧ h.IsTuple yl its.toArray), (fun _ => true),
      (fun i y => y = .bool (pb i)), rfl, (fun A' hA => Walks.tuple hA _ _ (Nat.ne_of_lt hylt) _), ⟨hItr3, hIL3⟩, ?_, lim2.extBut hx hcP, ?_, ?_, ?_⟩
    · intro b hb
      rcases List.mem_cons.mp hb with z | z
      · rw [z]
        show s1.heap.objs.size < h3.objs.size
        omega
      · rcases List.mem_cons.mp z with z | z
        · rw [z]
          have e9 : s1.heap.objs.size ≤ h3.objs.size := by omega
          exact Nat.lt_of_lt_of_le hylt e9
        · cases z
    · intro z
      rcases List.mem_cons.mp z with z | z
      · exact Nat.ne_of_lt hcl z
      · cases z
    · intro href hhref
      refine ⟨fun A' E' i v s₂ m₂ hA hD hU hPv hn hm hk => ?_, fun A' E' i v s₂ m₂ hA hD hU hPv hp hn hm hk => ?_⟩
      · simp only [List.forIn_nil]
        exact wpAny_pure ⟨rfl, GxR.keeps_refl _⟩
      · have hv2 : its[i]? = some v := by simpa using hPv
        have hi2 : i < vs.length := by rw [← hlen]; exact (List.getElem?_eq_some_iff.mp hv2).1
        obtain ⟨u, hu, ru⟩ := rv.get (List.getElem?_eq_getElem hi2)
        rw [hv2] at hu
        cases hu
        refine hElt code _ A' E' i vs[i] v s₂ m₂ hA hD hU (List.getElem?_eq_getElem hi2) ru hn hm fun b o hb e => ?_
        have hlt : b < s1.heap.objs.size := Heap.lt_size e
        refine hk b (List.mem_range.mpr (Nat.lt_of_lt_of_le hlt (show s1.heap.objs.size ≤ h3.objs.size by omega))) (fun z => ?_) o (hhref b o (keep3 b o hb e))
        rcases List.mem_cons.mp z with z | z
        · exact absurd hlt (by rw [z]; exact Nat.lt_irrefl _)
        · cases z
    · intro g h5 tk5 gs hgb hag hsz5 hk5 W5 hgat
      simp only [GxR.passing_true, List.length_range] at W5
      have hn5 : its.toArray.size = vs.length := by rw [List.size_toArray, hlen]
      rw [hn5] at W5 hgat
      refine hQ vs pb H1 g _ q1 ⟨_, _, _, _, _, W5.in4_1, hgat, ?_, fun s' hm => ?_⟩
      · intro j y sj Qj Ej hy hQj
        obtain ⟨i, hij, rfl⟩ := hy
        obtain ⟨hj, ej⟩ := List.getElem?_eq_some_iff.mp hij
        rw [List.getElem_range] at ej
        subst ej
        exact wpAny_truthy_bool hQj
      · obtain ⟨more, em⟩ := hmore
        have nwr : ∀ b u, s1.heap.get? b = some u → b ∉ h3.objs.size :: [s1.heap.objs.size] := fun b u e hb => by
          have hl := Heap.lt_size e
          rcases List.mem_cons.mp hb with z | z
          · rw [z] at hl
            have h9 : (h3.objs.size : Nat) < s1.heap.objs.size := hl
            omega
          · rcases List.mem_cons.mp z with z | z
            · rw [z] at hl
              exact Nat.lt_irrefl _ hl
            · cases z
        have J := GxR.inv_tab (more := more) (h' := s'.heap) (g' := s'.gens) (d' := s'.drawn) (t' := s'.toks) I1 hP (fun b u hb e => hm.heap b u (nwr b u e) (hk5 b u (keep3 b u hb e)))
          (by rw [← em]; exact hm.heap P _ (nwr P _ hPs) (hk5 P _ hP3)) (AllBare.movedS (I1.bare.push hgb) hm)
        rw [GxR.sh_eta s1 s' hm.os] at J
        refine ⟨upd H1 P (.tbl (ps ++ more)), ⟨⟨ps ++ more, upd_same, by rw [← em]; exact ht3⟩, fun b hb => upd_ne hb⟩, J⟩
  refine ⟨lim2, ?_⟩
  cases hf : codeAmong gpos ps.toList with
  | none =>
    refine wpAny_genexprCodeX hcode (cd.code hP2 ht) (cd.tab hP2) hf fun c' h' tk hx hge hlt hco' _ htab' _ => ?_
    obtain ⟨o1, vs, f1, tf, fl, tg, inF, tx, tt, op, _, _, _, _, _, _, _, _, _, htr, _⟩ := hco'
    exact cont _ h' tk _ hx (Nat.le_trans hge (Nat.le_of_lt hlt)) htab'.2 ⟨_, rfl⟩ htr
  | some cv =>
    refine wpAny_genexprCode_hit hcode (cd.code hP2 ht) hf ?_
    exact cont cv (s1.heap.push o) s1.toks ps (Heap.ExtBut.refl _ _) (Nat.le_refl _) hP2 ⟨#[], by simp⟩ ht

/-- all(test for x in e), e a tuple; behind it the def's table may have grown -/
def tAllT (K : PySem.W.Frag) (P : Addr) (R : List V → (Nat → Bool) → Hp → Prop) (te : TE) : TE := fun σ H Q => te σ H fun v H1 => ∃ (yl : Addr) (vs : List V) (pb : Nat → Bool), v = .ref yl ∧ SqT K H1 yl vs ∧ GxR.TabG H1 P ∧ R vs pb H1 ∧ ∀ H2, GxR.Tabbed P H1 H2 → Q (.bl ((List.range vs.length).all pb)) H2
theorem all_boot : bootBuiltins "all" = some (.builtin "all") := by decide +kernel
/-- the reading knows the slots: R may speak of them -/
theorem pe_allT {c P : Addr} {elt iter : Expr} {x : Str} {px p pos gpos : Pos} {scope : Scope} {te : TE} {k : Nat} {R : L2.St → List V → (Nat → Bool) → Hp → Prop}
    (hr : Room k X.A) (hg : Gl X "all") (hm : X.mg "all" = none) (TB : GxR.TabB X.base X.mg c P) (hcode : X.env.code = .ref c) (S : GxR.GenS X.env scope x) (hi : PE X iter te)
    (hel : ∀ pins σ s1 H1 vs pb, Inv X pins σ H1 s1 → H1 P ≠ none → R σ vs pb H1 → EltG X s1 P scope x elt vs pb)
    (hs : ∀ v, genFold iter X.env v = pure v := by intro _; rfl)
    (he : starEach [.GeneratorExp elt [⟨.Name x px, iter, [], 0⟩] scope gpos] X.env = (false, eval (.GeneratorExp elt [⟨.Name x px, iter, [], 0⟩] scope gpos) X.env) :: starEach [] X.env := by rfl) :
    PE X (.Call (.Name "all" p) [.GeneratorExp elt [⟨.Name x px, iter, [], 0⟩] scope gpos] [] pos) (fun σ => tAllT X.K P (R σ) te σ) := by
  refine ⟨fun pins s σ H Q I h => ?_⟩
  refine wpAny_Call_Name_kw (ld_blt I hg hm all_boot ?_)
  refine PyProof.Rows.callWith_builtin1 ?_ he (by rfl)
  rw [he]
  show wpAny _ _ (spliced ((false, eval (.GeneratorExp elt [⟨.Name x px, iter, [], 0⟩] scope gpos) X.env) :: backTo pos (starEach [] X.env))) _ _ s
  refine Calls.spliced_cons (gen_tup (R := fun vs pb H1 => R σ vs pb H1 ∧ ∀ H2, GxR.Tabbed P H1 H2 → Q (.bl ((List.range vs.length).all pb)) H2) hr TB hcode S hi (fun s1 H1 vs pb I1 hP r => hel pins σ s1 H1 vs pb I1 hP r.1) hs I h fun vs pb H1 g s5 hR hG => ?_)
  obtain ⟨fp, wr, G, F, St, W, hst, htr, hI⟩ := hG
  refine Calls.spliced_nil ?_
  refine call_all_walkS (W.self 0 _ _ _ hst ⟨g, fp, wr, G, _, F, St, _, rfl, W, hst, htr, fun s' hmv => ?_⟩)
  obtain ⟨H2, hT, J⟩ := hI s' hmv
  exact ⟨.bl _, H2, J, rfl, hR.2 H2 hT⟩
end
end Rs


set_option Elab.async false
set_option linter.all false
set_option maxRecDepth 100000
set_option maxHeartbeats 4000000
namespace Rs
open PySem PySem.Spec PyProof.Rows L2
/-- the element of a pair at place i -/
def EltZ (X : Cx) (s1 : Shared) (P : Addr) (scope : Scope) (xa xb : Str) (elt : Expr) (vs ws : List V) (pb : Nat → Bool) : Prop :=
  ∀ (code : Value) (C : Addr) (A' : Around) (E' : Value → Shared → Prop) (i : Nat) (v v' : V) (u u' : Value) (s₂ : Shared) (m₂ : Str → Option Value),
    A'.handled = none → A'.depth ≤ X.A.depth + 1 → A'.units ≤ X.A.units + 8 → vs[i]? = some v → ws[i]? = some v' → RelV v u → RelV v' u' → s₂.heap.Ns C m₂ → m₂ xa = some u → m₂ xb = some u' →
    (∀ b o, b ≠ P → s1.heap.get? b = some o → s₂.heap.get? b = some o) →
    wpAny (model X.prog X.w) A' (eval elt (genEnv scope (cloFrom X.env.cells scope.names []) C code builtinsNs X.env)) (fun y s₃ => y = .bool (pb i) ∧ Keeps s₂ s₃) E' s₂
/-- the generator expression's own scope: two names -/
structure GenS2 (env : Env) (scope : Scope) (xa xb : Str) : Prop where
  kind : scope.kind = .function
  co : scope.isCoroutine = false
  cell : ∀ y ∈ scope.names, y.2 ≠ .cell
  dot : scope.names.lookup (".0" : Str) = some NameKind.local
  la : scope.names.lookup xa = some .local
  lb : scope.names.lookup xb = some .local
  ne : xa ≠ xb
  free : ∀ y ∈ scope.names, y.2 = .free → ∃ c, env.cells.lookup y.1 = some c
section
variable {X : Cx} {pins : List (Addr × Obj)} {σ : L2.St} {H : Hp} {s : Shared}
theorem gen_zip {c P : Addr} {elt e1 e2 : Expr} {xa xb : Str} {pa pb' pt px gpos zpos : Pos} {kt : Nat} {scope : Scope} {ta : TA} {k : Nat} {Q' : Value → Shared → Prop} {R : List V → List V → (Nat → Bool) → Hp → Prop}
    (hr : Room k X.A) (hgz : Gl X "zip") (hmz : X.mg "zip" = none) (TB : GxR.TabB X.base X.mg c P) (hcode : X.env.code = .ref c) (S : GenS2 X.env scope xa xb) (ha : PA X [e1, e2] ta)
    (hel : ∀ s1 H1 vs ws pb, Inv X pins σ H1 s1 → H1 P ≠ none → R vs ws pb H1 → EltZ X s1 P scope xa xb elt vs ws pb)
    (hst : starEach [e1, e2] X.env = (false, eval e1 X.env) :: starEach [e2] X.env) (hpl : (backTo zpos (starEach [e2] X.env)).any (·.1) = false)
    (hs : ∀ v, genFold (.Call (.Name "zip" px) [e1, e2] [] zpos) X.env v = pure v) (I : Inv X pins σ H s)
    (h : ta σ H fun xs H1 => ∃ (y1 y2 : Addr) (vs ws : List V) (pb : Nat → Bool), xs = [.ref y1, .ref y2] ∧ SqT X.K H1 y1 vs ∧ SqT X.K H1 y2 ws ∧ GxR.TabG H1 P ∧ R vs ws pb H1)
    (hQ : ∀ vs ws pb H1 g s5, R vs ws pb H1 → ReadyT X pins σ H1 P (min vs.length ws.length) pb g s5 → Q' (.ref g) s5) :
    wpAny (model X.prog X.w) X.A (eval (.GeneratorExp elt [⟨.Tuple [.Name xa pa, .Name xb pb'] kt pt, .Call (.Name "zip" px) [e1, e2] [] zpos, [], 0⟩] scope gpos) X.env) Q' X.xe s := by
  refine wpAny_GeneratorExp_walksQTD hr.hd S.co (closure_ok S.free) S.cell S.dot S.la S.lb S.ne S.kind (by have := hr.dp; omega) ?_ hs
  refine Call_ (ld_blt I hgz hmz PyProof.Rows.boot_zip (PyProof.Rows.callWith_type1 (thn (ha.run zpos pins s σ H _ I h) fun us s1 ⟨xs, H1, I1, r1, q1⟩ => ?_) hst hpl))
  obtain ⟨y1, y2, vs, ws, pb, ex, hy1, hy2, ⟨ps, hP, ht⟩, q1⟩ := q1
  subst ex
  obtain ⟨w1, w2, rfl, ra, rb⟩ := vals2 r1
  obtain rfl : w1 = Value.ref y1 := ra
  obtain rfl : w2 = Value.ref y2 := rb
  obtain ⟨its, rv, hl, hz⟩ := I1.tuple hy1
  obtain ⟨its2, rv2, hl2, hz2⟩ := I1.tuple hy2
  have hT1 : s1.heap.IsTuple y1 its.toArray := hl
  have hT2 : s1.heap.IsTuple y2 its2.toArray := hl2
  have hlen : its.length = vs.length := by rw [← rv.length]
  have hlen2 : its2.length = ws.length := by rw [← rv2.length]
  have hElt := hel s1 H1 vs ws pb I1 (by rw [hP]; exact fun z => nomatch z) q1
  have ly1 : y1 < s1.heap.objs.size := by obtain ⟨_, e, _⟩ := _root_.id hT1; exact Heap.lt_size e
  have ly2 : y2 < s1.heap.objs.size := by obtain ⟨_, e, _⟩ := _root_.id hT2; exact Heap.lt_size e
  refine RZ.call_zipT hT1 hT2 fun hz' iz iTI iTO it1 it2 hsz' hkz => wpAny_pyIter_zip iz ?_
  have hPs : s1.heap.get? P = some { cls := .none, data := .fields ps } := I1.hok P _ hP
  have hPlt : P < s1.heap.objs.size := Heap.lt_size hPs
  have hP2 : hz'.get? P = some { cls := .none, data := .fields ps } := hkz _ _ hPs
  have cd : PySem.W.CodeHd hz' c P := TB.code.keeps fun b u e => hkz _ _ (I1.bk b u e)
  have lim2 : hz'.NoLimit := I1.nolimit.keeps hkz
  generalize hN : s1.heap.objs.size = N at iz iTI iTO it1 it2 hsz' ly1 ly2 hPlt
  have cont : ∀ (code : Value) (h3 : Heap) (tk : Nat) (ps' : Array Value), Heap.ExtBut P hz' h3 → hz'.objs.size ≤ h3.objs.size → h3.get? P = some { cls := .none, data := .fields ps' } → (∃ more, ps' = ps ++ more) → TriplesOk ps'.toList →
      wpAny (model X.prog X.w) X.A (builtinsFor X.env.globals X.env.builtins) (fun bi s₄ =>
        ∃ Ia fp wr n₀ Pt St₀ Mid pz F, Value.ref (N + 4) = .ref Ia ∧ (∀ A' : Around, A'.handled = none → WalksU X.prog X.w A' Ia fp wr n₀ Pt St₀ Mid) ∧ (∀ i vals, Pt i vals → ∃ va vb, vals = #[va, vb]) ∧ St₀ 0 s₄.heap ∧ (∀ b ∈ fp, b < s₄.heap.objs.size) ∧ s₄.heap.NoLimit ∧ cStatics ∉ wr ∧
          (∀ href : Heap, (∀ b o, s₄.heap.get? b = some o → href.get? b = some o) →
            QuietGenTD X.prog X.w (genEnv scope (cloFrom X.env.cells scope.names []) s₄.heap.objs.size code bi X.env) xa xb [] elt (List.range s₄.heap.objs.size) wr Pt pz F href (X.A.depth + 1) (X.A.units + 8)) ∧
          (∀ a h₅ tk gs, gs.bare = true → s₄.heap.objs.size < a → h₅.objs.size = a + 1 → (∀ b o, s₄.heap.get? b = some o → h₅.get? b = some o) →
            WalksS X.prog X.w X.A.in4 a (a :: s₄.heap.objs.size :: List.range s₄.heap.objs.size) (s₄.heap.objs.size :: wr) (GenOnlyQ s₄.gens.size) (passing pz n₀ 0).length
              (fun j y => ∃ i, (passing pz n₀ 0)[j]? = some i ∧ F i y) (GenAt X.prog X.w X.A.in4 a s₄.gens.size s₄.heap.objs.size (List.range s₄.heap.objs.size) wr pz n₀ F) →
            GenAt X.prog X.w X.A.in4 a s₄.gens.size s₄.heap.objs.size (List.range s₄.heap.objs.size) wr pz n₀ F 0 { s₄ with gens := s₄.gens.push gs, toks := tk, heap := h₅ } →
            Q' (.ref a) { s₄ with gens := s₄.gens.push gs, toks := tk, heap := h₅ })) X.xe { s1 with heap := h3, toks := tk } := by
    intro code h3 tk ps' hx hsz hP3 hmore ht3
    obtain ⟨bm, ob, e1, e2, e3, e4, e5, e6, e7, e8⟩ := TB.bm
    have hcP : cStatics ≠ P := fun e => by
      obtain ⟨_, hns, _⟩ := I1.nolimit
      obtain ⟨o', es, ep, ho, hd, _⟩ := hns
      rw [e, hPs] at ho
      cases ho
      cases hd
    have hcl : cStatics < N := by rw [← hN]; exact let ⟨_, hns, _⟩ := I1.nolimit; hns.lt
    have keep3 : ∀ b u, b ≠ P → s1.heap.get? b = some u → h3.get? b = some u := fun b u hb e => hx b u hb (hkz _ _ e)
    refine wpAny_builtinsFor (m := X.mg) (by rw [I1.ok.glob]; exact ((I1.mod.glob.keeps I1.bk).keeps hkz).extBut hx TB.gP) e1 e2 (keep3 _ _ e4 (I1.bk _ _ e5)) e6 e7 e8 ?_
    have tupP : ∀ {y : Addr} {xs : Array Value}, s1.heap.IsTuple y xs → y ≠ P := fun {y xs} hT z => by
      obtain ⟨_, e, hc1, _, hd1⟩ := hT
      rw [z, hPs] at e
      cases e
      cases hd1
    have at3 : ∀ {y : Addr} {xs : Array Value}, s1.heap.IsTuple y xs → h3.IsTuple y xs := fun {y xs} hT => by
      obtain ⟨ob, e, r⟩ := _root_.id hT
      exact ⟨ob, keep3 _ _ (tupP hT) e, r⟩
    have up3 : ∀ b o, N ≤ b → hz'.get? b = some o → h3.get? b = some o := fun b o hb e => hx b o (Nat.ne_of_gt (Nat.lt_of_lt_of_le hPlt hb)) e
    have fpn : ∀ b ∈ [y1], b < N := fun b hb => by rw [List.mem_singleton.mp hb]; exact ly1
    have fpn2 : ∀ b ∈ [y2], b < N := fun b hb => by rw [List.mem_singleton.mp hb]; exact ly2
    have sep := zip_sep2 (N := N) fpn fpn2
    have W : ∀ A' : Around, A'.handled = none → WalksU X.prog X.w A' (N + 4) ((N + 4) :: (N + 2) :: (N + 3) :: ([N, y1] ++ [N + 1, y2])) [N + 4, N + 3, N, N + 1] (min its.toArray.size its2.toArray.size) _ _ _ := fun A' hA =>
      (WalksT.zipD2 (prog := X.prog) (w := X.w) (A := A') sep (Draws.tuple (A := A'.in1) hA N y1 (Nat.ne_of_lt ly1) its.toArray) (Draws.tuple (A := A'.in1) hA (N + 1) y2 (Nat.ne_of_lt (Nat.lt_succ_of_lt ly2)) its2.toArray)).toU
    refine ⟨N + 4, _, _, min its.toArray.size its2.toArray.size, _, _, _, (fun _ => true), (fun i y => y = .bool (pb i)), rfl, W, (fun i vals hv => ?_), ?_, ?_, lim2.extBut hx hcP, ?_, ?_, ?_⟩
    · obtain ⟨a1, a2, _, _, e⟩ := hv
      exact ⟨a1, a2, e⟩
    · refine ⟨up3 _ _ (Nat.le_add_right _ _) iz, up3 _ _ (Nat.le_add_right _ _) iTI, ⟨_, _, up3 _ _ (Nat.le_add_right _ _) iTO⟩, ⟨it1.at fun o e => up3 _ _ (Nat.le_refl _) e, at3 hT1⟩, ⟨it2.at fun o e => up3 _ _ (Nat.le_add_right _ _) e, at3 hT2⟩⟩
    · intro b hb
      show b < h3.objs.size
      have hb' : b = N + 4 ∨ b = N + 2 ∨ b = N + 3 ∨ b = N ∨ b = y1 ∨ b = N + 1 ∨ b = y2 := by simpa using hb
      have hlt : b < N + 5 := by
        rcases hb' with z | z | z | z | z | z | z
        · rw [z]; exact Nat.lt_succ_self _
        · rw [z]; exact Nat.add_lt_add_left (by decide) _
        · rw [z]; exact Nat.add_lt_add_left (by decide) _
        · rw [z]; exact Nat.lt_add_of_pos_right (by decide)
        · rw [z]; exact Nat.lt_of_lt_of_le ly1 (Nat.le_add_right _ _)
        · rw [z]; exact Nat.add_lt_add_left (by decide) _
        · rw [z]; exact Nat.lt_of_lt_of_le ly2 (Nat.le_add_right _ _)
      rw [hsz'] at hsz
      exact Nat.lt_of_lt_of_le hlt hsz
    · intro z
      have hb' : cStatics = N + 4 ∨ cStatics = N + 3 ∨ cStatics = N ∨ cStatics = N + 1 := by simpa using z
      have hle : N ≤ cStatics := by
        rcases hb' with q | q | q | q
        · rw [q]; exact Nat.le_add_right _ _
        · rw [q]; exact Nat.le_add_right _ _
        · rw [q]; exact Nat.le_refl _
        · rw [q]; exact Nat.le_add_right _ _
      exact absurd hcl (Nat.not_lt.mpr hle)
    · intro href hhref
      refine ⟨fun A' E' i va vb s₂ m₂ hA hD hU hPv hn hma hmb hk => ?_, fun A' E' i va vb s₂ m₂ hA hD hU hPv hp hn hma hmb hk => ?_⟩
      · simp only [List.forIn_nil]
        exact wpAny_pure ⟨rfl, GxR.keeps_refl _⟩
      · obtain ⟨a1, a2, ha1, ha2, ev⟩ := hPv
        obtain ⟨ea, eb⟩ : va = a1 ∧ vb = a2 := by simpa using congrArg Array.toList ev
        subst ea eb
        have hv1 : its[i]? = some va := by simpa using ha1
        have hv2 : its2[i]? = some vb := by simpa using ha2
        have hi1 : i < vs.length := by rw [← hlen]; exact (List.getElem?_eq_some_iff.mp hv1).1
        have hi2 : i < ws.length := by rw [← hlen2]; exact (List.getElem?_eq_some_iff.mp hv2).1
        obtain ⟨u, hu, ru⟩ := rv.get (List.getElem?_eq_getElem hi1)
        rw [hv1] at hu
        cases hu
        obtain ⟨u2, hu2, ru2⟩ := rv2.get (List.getElem?_eq_getElem hi2)
        rw [hv2] at hu2
        cases hu2
        refine hElt code _ A' E' i vs[i] ws[i] va vb s₂ m₂ hA hD hU (List.getElem?_eq_getElem hi1) (List.getElem?_eq_getElem hi2) ru ru2 hn hma hmb fun b o hb e => ?_
        have hlt : b < N := by rw [← hN]; exact Heap.lt_size e
        refine hk b (List.mem_range.mpr (Nat.lt_of_lt_of_le hlt (show N ≤ h3.objs.size from Nat.le_trans (by rw [hsz']; exact Nat.le_add_right _ _) hsz))) (fun z => ?_) o (hhref b o (keep3 b o hb e))
        have hb' : b = N + 4 ∨ b = N + 3 ∨ b = N ∨ b = N + 1 := by simpa using z
        have hle : N ≤ b := by
          rcases hb' with q | q | q | q
          · rw [q]; exact Nat.le_add_right _ _
          · rw [q]; exact Nat.le_add_right _ _
          · rw [q]; exact Nat.le_refl _
          · rw [q]; exact Nat.le_add_right _ _
        exact absurd hlt (Nat.not_lt.mpr hle)
    · intro g h5 tk5 gs hgb hag hsz5 hk5 W5 hgat
      simp only [GxR.passing_true, List.length_range] at W5
      have hn5 : min its.toArray.size its2.toArray.size = min vs.length ws.length := by rw [List.size_toArray, List.size_toArray, hlen, hlen2]
      rw [hn5] at W5 hgat
      refine hQ vs ws pb H1 g _ q1 ⟨_, _, _, _, _, W5.in4_1, hgat, ?_, fun s' hm => ?_⟩
      · intro j y sj Qj Ej hy hQj
        obtain ⟨i, hij, rfl⟩ := hy
        obtain ⟨hj, ej⟩ := List.getElem?_eq_some_iff.mp hij
        rw [List.getElem_range] at ej
        subst ej
        exact wpAny_truthy_bool hQj
      · obtain ⟨more, em⟩ := hmore
        have nwr : ∀ b u, s1.heap.get? b = some u → b ∉ h3.objs.size :: [N + 4, N + 3, N, N + 1] := fun b u e hb => by
          have hl : b < N := by rw [← hN]; exact Heap.lt_size e
          have hle : N ≤ b := by
            have hb' : b = h3.objs.size ∨ b = N + 4 ∨ b = N + 3 ∨ b = N ∨ b = N + 1 := by simpa using hb
            rcases hb' with q | q | q | q | q
            · rw [q]; exact Nat.le_trans (by rw [hsz']; exact Nat.le_add_right _ _) hsz
            · rw [q]; exact Nat.le_add_right _ _
            · rw [q]; exact Nat.le_add_right _ _
            · rw [q]; exact Nat.le_refl _
            · rw [q]; exact Nat.le_add_right _ _
          exact absurd hl (Nat.not_lt.mpr hle)
        have J := GxR.inv_tab (more := more) (h' := s'.heap) (g' := s'.gens) (d' := s'.drawn) (t' := s'.toks) I1 hP (fun b u hb e => hm.heap b u (nwr b u e) (hk5 b u (keep3 b u hb e)))
          (by rw [← em]; exact hm.heap P _ (nwr P _ hPs) (hk5 P _ hP3)) (AllBare.movedS (I1.bare.push hgb) hm)
        rw [GxR.sh_eta s1 s' hm.os] at J
        refine ⟨upd H1 P (.tbl (ps ++ more)), ⟨⟨ps ++ more, upd_same, by rw [← em]; exact ht3⟩, fun b hb => upd_ne hb⟩, J⟩
  refine ⟨lim2, ?_⟩
  cases hf : codeAmong gpos ps.toList with
  | none =>
    refine wpAny_genexprCodeX hcode (cd.code hP2 ht) (cd.tab hP2) hf fun c' h' tk hx hge hlt hco' _ htab' _ => ?_
    obtain ⟨o1, vs, f1, tf, fl, tg, inF, tx, tt, op, _, _, _, _, _, _, _, _, _, htr, _⟩ := hco'
    exact cont _ h' tk _ hx (Nat.le_trans hge (Nat.le_of_lt hlt)) htab'.2 ⟨_, rfl⟩ htr
  | some cv =>
    refine wpAny_genexprCode_hit hcode (cd.code hP2 ht) hf ?_
    exact cont cv hz' s1.toks ps (Heap.ExtBut.refl _ _) (Nat.le_refl _) hP2 ⟨#[], by simp⟩ ht

def tAllZ (K : PySem.W.Frag) (P : Addr) (R : List V → List V → (Nat → Bool) → Hp → Prop) (ta : TA) : TE := fun σ H Q => ta σ H fun xs H1 => ∃ (y1 y2 : Addr) (vs ws : List V) (pb : Nat → Bool), xs = [.ref y1, .ref y2] ∧ SqT K H1 y1 vs ∧ SqT K H1 y2 ws ∧ GxR.TabG H1 P ∧ R vs ws pb H1 ∧
  ∀ H2, GxR.Tabbed P H1 H2 → Q (.bl ((List.range (min vs.length ws.length)).all pb)) H2
theorem pe_allZ {c P : Addr} {elt e1 e2 : Expr} {xa xb : Str} {pa pb' pt px p pos gpos zpos : Pos} {kt : Nat} {scope : Scope} {ta : TA} {k : Nat} {R : L2.St → List V → List V → (Nat → Bool) → Hp → Prop}
    (hr : Room k X.A) (hg : Gl X "all") (hm : X.mg "all" = none) (hgz : Gl X "zip") (hmz : X.mg "zip" = none) (TB : GxR.TabB X.base X.mg c P) (hcode : X.env.code = .ref c) (S : GenS2 X.env scope xa xb) (ha : PA X [e1, e2] ta)
    (hel : ∀ pins σ s1 H1 vs ws pb, Inv X pins σ H1 s1 → H1 P ≠ none → R σ vs ws pb H1 → EltZ X s1 P scope xa xb elt vs ws pb)
    (hs : ∀ v, genFold (.Call (.Name "zip" px) [e1, e2] [] zpos) X.env v = pure v := by intro _; rfl)
    (hst : starEach [e1, e2] X.env = (false, eval e1 X.env) :: starEach [e2] X.env := by rfl) (hpl : (backTo zpos (starEach [e2] X.env)).any (·.1) = false := by rfl)
    (he : starEach [.GeneratorExp elt [⟨.Tuple [.Name xa pa, .Name xb pb'] kt pt, .Call (.Name "zip" px) [e1, e2] [] zpos, [], 0⟩] scope gpos] X.env = (false, eval (.GeneratorExp elt [⟨.Tuple [.Name xa pa, .Name xb pb'] kt pt, .Call (.Name "zip" px) [e1, e2] [] zpos, [], 0⟩] scope gpos) X.env) :: starEach [] X.env := by rfl) :
    PE X (.Call (.Name "all" p) [.GeneratorExp elt [⟨.Tuple [.Name xa pa, .Name xb pb'] kt pt, .Call (.Name "zip" px) [e1, e2] [] zpos, [], 0⟩] scope gpos] [] pos) (fun σ => tAllZ X.K P (R σ) ta σ) := by
  refine ⟨fun pins s σ H Q I h => ?_⟩
  refine wpAny_Call_Name_kw (ld_blt I hg hm all_boot ?_)
  refine PyProof.Rows.callWith_builtin1 ?_ he (by rfl)
  rw [he]
  show wpAny _ _ (spliced ((false, eval (.GeneratorExp elt [⟨.Tuple [.Name xa pa, .Name xb pb'] kt pt, .Call (.Name "zip" px) [e1, e2] [] zpos, [], 0⟩] scope gpos) X.env) :: backTo pos (starEach [] X.env))) _ _ s
  refine Calls.spliced_cons (gen_zip (R := fun vs ws pb H1 => R σ vs ws pb H1 ∧ ∀ H2, GxR.Tabbed P H1 H2 → Q (.bl ((List.range (min vs.length ws.length)).all pb)) H2) hr hgz hmz TB hcode S ha (fun s1 H1 vs ws pb I1 hP r => hel pins σ s1 H1 vs ws pb I1 hP r.1) hst hpl hs I h fun vs ws pb H1 g s5 hR hG => ?_)
  obtain ⟨fp, wr, G, F, St, W, hst', htr, hI⟩ := hG
  refine Calls.spliced_nil ?_
  refine call_all_walkS (W.self 0 _ _ _ hst' ⟨g, fp, wr, G, _, F, St, _, rfl, W, hst', htr, fun s' hmv => ?_⟩)
  obtain ⟨H2, hT, J⟩ := hI s' hmv
  exact ⟨.bl _, H2, J, rfl, hR.2 H2 hT⟩
end
end Rs


set_option Elab.async false
set_option linter.all false
set_option maxRecDepth 100000
set_option maxHeartbeats 4000000
/-! what stands in the heap, and what stays -/
namespace Rs
open PySem PySem.Spec PyProof.Rows L2
abbrev nv (n : Nat) : V := .int (n : Int)
def nvs (ns : List Nat) : List V := ns.map nv
theorem nvs_length (ns : List Nat) : (nvs ns).length = ns.length := List.length_map _
theorem nvs_get {ns : List Nat} {i n : Nat} (h : ns[i]? = some n) : (nvs ns)[i]? = some (nv n) := by
  unfold nvs
  rw [List.getElem?_map, h]
  rfl
theorem nvs_at {ns : List Nat} {i : Nat} {v : V} (h : (nvs ns)[i]? = some v) : ∃ n, ns[i]? = some n ∧ v = nv n := by
  unfold nvs at h
  rw [List.getElem?_map] at h
  cases e : ns[i]? with
  | none => rw [e] at h; cases h
  | some n => rw [e] at h; exact ⟨n, rfl, (Option.some.inj h).symm⟩
theorem nvs_app (a b : List Nat) : nvs (a ++ b) = nvs a ++ nvs b := List.map_append
theorem nv_inj {a b : Nat} (h : nv a = nv b) : a = b := by
  injection h with e
  omega
theorem nvs_inj : ∀ {a b : List Nat}, nvs a = nvs b → a = b
  | [], [], _ => rfl
  | [], _ :: _, h => by cases h
  | _ :: _, [], h => by cases h
  | x :: a, y :: b, h => by
    have h1 : nv x :: nvs a = nv y :: nvs b := h
    injection h1 with e1 e2
    rw [nv_inj e1, nvs_inj e2]
theorem nvs_map (ns : List Nat) : nvs ns = (ns.map fun n : Nat => (n : Int)).map V.int := by
  unfold nvs
  rw [List.map_map]
  rfl
/-- at a a tuple of these numbers -/
abbrev TN (H : Hp) (a : Addr) (ns : List Nat) : Prop := H a = some (.tup (nvs ns))
def Hab1 (H : Hp) (a : Addr) (h : List (List Nat)) : Prop := ∃ as : List Addr, H a = some (.tup (as.map V.ref)) ∧ Paired (fun b q => TN H b q) as h
def HabsAt (H : Hp) (a : Addr) (hs : HabL) : Prop := ∃ as : List Addr, H a = some (.tup (as.map V.ref)) ∧ Paired (fun b h => Hab1 H b h) as hs
/-- at a the test t -/
def TestAt (H : Hp) (a : Addr) (t : Ts) : Prop := ∃ b, H a = some (.tup [nv t.p, .ref b, nv t.r]) ∧ TN H b t.w
def TreeAt (H : Hp) : Addr → T → Prop
  | a, .left g => ∃ b, H a = some (.tup [.str "left", .ref b]) ∧ TN H b g
  | a, .test t x y => ∃ b c d, H a = some (.tup [.str "test", .ref b, .ref c, .ref d]) ∧ TestAt H b t ∧ TreeAt H c x ∧ TreeAt H d y
/-- tuples stay -/
def Tk (H H' : Hp) : Prop := ∀ b ys, H b = some (.tup ys) → H' b = some (.tup ys)
theorem Tk.refl (H : Hp) : Tk H H := fun _ _ h => h
theorem Tk.trans {H H1 H2 : Hp} (a : Tk H H1) (b : Tk H1 H2) : Tk H H2 := fun c ys h => b c ys (a c ys h)
theorem paired_imp {α β : Type} {F G : α → β → Prop} {l₁ : List α} {l₂ : List β} (h : Paired F l₁ l₂) (f : ∀ a b, F a b → G a b) : Paired G l₁ l₂ := Paired.mapP h f
theorem Hab1.st {H H' : Hp} {a : Addr} {h : List (List Nat)} (x : Hab1 H a h) (k : Tk H H') : Hab1 H' a h := by
  obtain ⟨as, e, p⟩ := x
  exact ⟨as, k _ _ e, paired_imp p fun b q z => k _ _ z⟩
theorem HabsAt.st {H H' : Hp} {a : Addr} {h : HabL} (x : HabsAt H a h) (k : Tk H H') : HabsAt H' a h := by
  obtain ⟨as, e, p⟩ := x
  exact ⟨as, k _ _ e, paired_imp p fun b q z => z.st k⟩
theorem TestAt.st {H H' : Hp} {a : Addr} {t : Ts} (x : TestAt H a t) (k : Tk H H') : TestAt H' a t := by
  obtain ⟨b, e, p⟩ := x
  exact ⟨b, k _ _ e, k _ _ p⟩
theorem TreeAt.st {H H' : Hp} (k : Tk H H') : ∀ {t : T} {a : Addr}, TreeAt H a t → TreeAt H' a t
  | .left g, a, x => by
    obtain ⟨b, e, p⟩ := x
    exact ⟨b, k _ _ e, k _ _ p⟩
  | .test t x y, a, z => by
    obtain ⟨b, c, d, e, p, q, r⟩ := z
    exact ⟨b, c, d, k _ _ e, p.st k, TreeAt.st k q, TreeAt.st k r⟩
theorem Hab1.len {H : Hp} {a : Addr} {h : List (List Nat)} (x : Hab1 H a h) : ∃ as : List Addr, H a = some (.tup (as.map V.ref)) ∧ as.length = h.length := by
  obtain ⟨as, e, p⟩ := x
  exact ⟨as, e, Paired.length p⟩
theorem HabsAt.at {H : Hp} {a : Addr} {hs : HabL} (x : HabsAt H a hs) : ∃ xs : List V, H a = some (.tup xs) ∧ xs.length = hs.length ∧ ∀ (i : Nat) (h : List (List Nat)), hs[i]? = some h → ∃ b : Addr, xs[i]? = some (V.ref b) ∧ Hab1 H b h := by
  obtain ⟨as, e, p⟩ := x
  have hl : as.length = hs.length := Paired.length p
  refine ⟨_, e, by rw [List.length_map]; exact hl, fun i h hi => ?_⟩
  have hlt : i < as.length := by rw [hl]; exact (List.getElem?_eq_some_iff.mp hi).1
  obtain ⟨h', e', r⟩ := paired_get p (List.getElem?_eq_getElem hlt)
  rw [hi] at e'
  cases e'
  exact ⟨as[i], by rw [List.getElem?_map, List.getElem?_eq_getElem hlt]; rfl, r⟩
theorem Hab1.at {H : Hp} {a : Addr} {hb : List (List Nat)} (x : Hab1 H a hb) : ∃ xs : List V, H a = some (.tup xs) ∧ xs.length = hb.length ∧ ∀ (i : Nat) (q : List Nat), hb[i]? = some q → ∃ b : Addr, xs[i]? = some (V.ref b) ∧ TN H b q := by
  obtain ⟨as, e, p⟩ := x
  have hl : as.length = hb.length := Paired.length p
  refine ⟨_, e, by rw [List.length_map]; exact hl, fun i h hi => ?_⟩
  have hlt : i < as.length := by rw [hl]; exact (List.getElem?_eq_some_iff.mp hi).1
  obtain ⟨h', e', r⟩ := paired_get p (List.getElem?_eq_getElem hlt)
  rw [hi] at e'
  cases e'
  exact ⟨as[i], by rw [List.getElem?_map, List.getElem?_eq_getElem hlt]; rfl, r⟩
theorem upd_none {H : Hp} {p b : Addr} {o : HO} (h : upd H p o b = none) : H b = none := by
  by_cases e : b = p
  · rw [e, upd_same] at h
    cases h
  · rw [upd_ne e] at h
    exact h
/-- behind code that writes at xs alone; code objects' tables may have grown -/
structure Kp (xs : List Addr) (H H' : Hp) : Prop where
  tup : Tk H H'
  oth : ∀ b u, H b = some u → b ∉ xs → (∀ q, u ≠ .tbl q) → H' b = some u
  tab : ∀ b, GxR.TabG H b → GxR.TabG H' b
  dom : ∀ b, H' b = none → H b = none
theorem Kp.refl {xs : List Addr} (H : Hp) : Kp xs H H := ⟨Tk.refl H, fun _ _ h _ _ => h, fun _ h => h, fun _ h => h⟩
theorem Kp.trans {xs : List Addr} {H H1 H2 : Hp} (a : Kp xs H H1) (b : Kp xs H1 H2) : Kp xs H H2 :=
  ⟨a.tup.trans b.tup, fun c u h hx ht => b.oth c u (a.oth c u h hx ht) hx ht, fun c h => b.tab c (a.tab c h), fun c h => a.dom c (b.dom c h)⟩
theorem Kp.mono {xs ys : List Addr} {H H' : Hp} (a : Kp xs H H') (h : ∀ x ∈ xs, x ∈ ys) : Kp ys H H' :=
  ⟨a.tup, fun c u e hx ht => a.oth c u e (fun z => hx (h c z)) ht, a.tab, a.dom⟩
theorem Kp.up {xs : List Addr} {H H' : Hp} (a : Kp [] H H') : Kp xs H H' := a.mono fun _ h => (List.not_mem_nil h).elim
theorem Kp.new {xs : List Addr} {H : Hp} {p : Addr} (hp : H p = none) (o : HO) : Kp xs H (upd H p o) where
  tup := fun b ys h => by rw [upd_ne (ne_of_none h hp)]; exact h
  oth := fun b u h _ _ => by rw [upd_ne (ne_of_none h hp)]; exact h
  tab := fun b h => by
    obtain ⟨ps, e, t⟩ := h
    exact ⟨ps, by rw [upd_ne (ne_of_none e hp)]; exact e, t⟩
  dom := fun b h => upd_none h
theorem Kp.put {xs : List Addr} {H : Hp} {p : Addr} (hm : Mut (H p)) (hx : p ∈ xs) (o : HO) : Kp xs H (upd H p o) where
  tup := fun b ys h => by
    rw [upd_ne]
    · exact h
    · intro e
      rw [← e, h] at hm
      exact hm
  oth := fun b u h hb _ => by
    rw [upd_ne]
    · exact h
    · intro e
      rw [e] at hb
      exact hb hx
  tab := fun b h => by
    obtain ⟨ps, e, t⟩ := h
    refine ⟨ps, ?_, t⟩
    rw [upd_ne]
    · exact e
    · intro z
      rw [← z, e] at hm
      exact hm
  dom := fun b h => upd_none h
/-- what was not there when one began is one's own -/
theorem Kp.drop {xs : List Addr} {H H' : Hp} {d : Addr} (a : Kp (d :: xs) H H') (hd : H d = none) : Kp xs H H' :=
  ⟨a.tup, fun c u e hx ht => a.oth c u e (fun z => (List.mem_cons.mp z).elim (fun q => ne_of_none e hd q) hx) ht, a.tab, a.dom⟩
theorem Kp.tabbed {xs : List Addr} {P : Addr} {H H' : Hp} (h : GxR.Tabbed P H H') (hP : GxR.TabG H P) : Kp xs H H' where
  tup := fun b ys e => by
    rw [h.2 b]
    · exact e
    · intro z
      obtain ⟨ps, q, _⟩ := hP
      rw [z, q] at e
      cases e
  oth := fun b u e _ ht => by
    rw [h.2 b]
    · exact e
    · intro z
      obtain ⟨ps, q, _⟩ := hP
      rw [z, q] at e
      exact ht ps (Option.some.inj e).symm
  tab := fun b g => by
    by_cases z : b = P
    · rw [z]
      exact h.1
    · obtain ⟨ps, q, t⟩ := g
      exact ⟨ps, by rw [h.2 b z]; exact q, t⟩
  dom := fun b e => by
    by_cases z : b = P
    · obtain ⟨ps, q, _⟩ := h.1
      rw [z, q] at e
      cases e
    · rw [← h.2 b z]
      exact e
theorem Kp.lst {xs : List Addr} {H H' : Hp} (a : Kp xs H H') {b : Addr} {l : List V} (e : H b = some (.lst l)) (hx : b ∉ xs) : H' b = some (.lst l) := a.oth b _ e hx fun _ z => nomatch z
theorem Kp.dct {xs : List Addr} {H H' : Hp} (a : Kp xs H H') {b : Addr} {l : List (List L2.Key × V)} (e : H b = some (.dT l)) (hx : b ∉ xs) : H' b = some (.dT l) := a.oth b _ e hx fun _ z => nomatch z
theorem Kp.frz {xs : List Addr} {H H' : Hp} (a : Kp xs H H') {b : Addr} {o : Obj} {u : HO} (e : H b = some (.frz o u)) (hx : b ∉ xs) : H' b = some (.frz o u) := a.oth b _ e hx fun _ z => nomatch z
theorem Kp.ins {xs : List Addr} {H H' : Hp} (a : Kp xs H H') {b C dx : Addr} {fs : List (Str × V)} (e : H b = some (.ins C dx fs)) (hx : b ∉ xs) : H' b = some (.ins C dx fs) := a.oth b _ e hx fun _ z => nomatch z

/-! ### dicts with tuple keys -/
def ks (m : List Nat) : List L2.Key := m.map fun n : Nat => Sum.inl (n : Int)
theorem ks_kV (m : List Nat) : (ks m).map kV = nvs m := by
  unfold ks nvs
  rw [List.map_map]
  rfl
theorem ks_inj : ∀ {a b : List Nat}, ks a = ks b → a = b
  | [], [], _ => rfl
  | [], _ :: _, h => by cases h
  | _ :: _, [], h => by cases h
  | x :: a, y :: b, h => by
    have h1 : (Sum.inl (x : Int) : L2.Key) :: ks a = Sum.inl (y : Int) :: ks b := h
    injection h1 with e1 e2
    have e3 : (x : Int) = (y : Int) := Sum.inl.inj e1
    have e4 : x = y := by omega
    rw [e4, ks_inj e2]
section
variable {α : Type}
/-- the dict's pairs are those of D, by R -/
def DP (R : Hp → V → α → Prop) (H : Hp) (kvs : List (List L2.Key × V)) (D : List (List Nat × α)) : Prop := Paired (fun kv e => kv.1 = ks e.1 ∧ R H kv.2 e.2) kvs D
/-- at d such a dict -/
def DA (R : Hp → V → α → Prop) (H : Hp) (d : Addr) (D : List (List Nat × α)) : Prop := ∃ kvs, H d = some (.dT kvs) ∧ DP R H kvs D
/-- .. or one that is locked -/
def DR (R : Hp → V → α → Prop) (H : Hp) (d : Addr) (D : List (List Nat × α)) : Prop := ∃ kvs, Rd H d (.dT kvs) ∧ DP R H kvs D
/-- R leans on tuples alone -/
def Stb (R : Hp → V → α → Prop) : Prop := ∀ H H' v x, Tk H H' → R H v x → R H' v x
variable {R : Hp → V → α → Prop} {H H' : Hp} {d : Addr} {kvs : List (List L2.Key × V)} {D : List (List Nat × α)}
theorem DP.st (h : DP R H kvs D) (s : Stb R) (k : Tk H H') : DP R H' kvs D := paired_imp h fun a b z => ⟨z.1, s _ _ _ _ k z.2⟩
theorem DA.dr (h : DA R H d D) : DR R H d D := let ⟨kvs, e, p⟩ := h; ⟨kvs, .inl e, p⟩
theorem DA.kp {xs : List Addr} (h : DA R H d D) (s : Stb R) (k : Kp xs H H') (hx : d ∉ xs) : DA R H' d D := let ⟨kvs, e, p⟩ := h; ⟨kvs, k.dct e hx, p.st s k.tup⟩
theorem DR.kp {xs : List Addr} (h : DR R H d D) (s : Stb R) (k : Kp xs H H') (hx : d ∉ xs) : DR R H' d D := by
  obtain ⟨kvs, e, p⟩ := h
  refine ⟨kvs, ?_, p.st s k.tup⟩
  rcases e with e | ⟨o, e⟩
  · exact .inl (k.dct e hx)
  · exact .inr ⟨o, k.frz e hx⟩
theorem DP.length (h : DP R H kvs D) : kvs.length = D.length := Paired.length h
theorem DP.val (h : DP R H kvs D) (m : List Nat) : (valV kvs (ks m) = none ∧ lk D m = none) ∨ ∃ v x, valV kvs (ks m) = some v ∧ lk D m = some x ∧ R H v x := by
  unfold DP at h
  induction h with
  | nil => exact .inl ⟨rfl, rfl⟩
  | @cons a b l₁ l₂ r t ih =>
    by_cases e : b.1 = m
    · right
      refine ⟨a.2, b.2, ?_, ?_, r.2⟩
      · exact valV_pos (by rw [r.1, e])
      · unfold lk
        rw [List.find?_cons_of_pos (by exact decide_eq_true e)]
        rfl
    · have e2 : ¬ a.1 = ks m := fun z => e (ks_inj (by rw [← r.1, z]))
      have e3 : lk (b :: l₂) m = lk l₂ m := by
        unfold lk
        rw [List.find?_cons_of_neg (by simpa using e)]
      rw [valV_neg e2, e3]
      exact ih
theorem DR.get (h : DR R H d D) {a : Addr} {m : List Nat} (hm : TN H a m) : ∃ o, DGet H d (.ref a) o ∧ ((o = none ∧ lk D m = none) ∨ ∃ v x, o = some v ∧ lk D m = some x ∧ R H v x) := by
  obtain ⟨kvs, e, p⟩ := h
  exact ⟨valV kvs (ks m), .inr ⟨kvs, ks m, a, e, rfl, by rw [ks_kV]; exact hm, rfl⟩, p.val m⟩
theorem DP.put (h : DP R H kvs D) {m : List Nat} {v : V} {x : α} (r : R H v x) : DP R H (putK kvs (ks m) v) (pt D m x) := by
  have hany : (kvs.any fun kv => decide (kv.1 = ks m)) = true ↔ m ∈ keys D := by
    rw [valV_any]
    rcases h.val m with ⟨e1, e2⟩ | ⟨v', x', e1, e2, _⟩
    · rw [e1]
      exact ⟨fun z => (nomatch z), fun z => absurd z (lk_none e2)⟩
    · rw [e1]
      exact ⟨fun _ => List.mem_map.mpr ⟨_, lk_some e2, rfl⟩, fun _ => rfl⟩
  unfold putK pt
  by_cases hk : m ∈ keys D
  · rw [if_pos (hany.mpr hk), if_pos hk]
    clear hany hk
    unfold DP at h ⊢
    induction h with
    | nil => exact .nil
    | @cons a b l₁ l₂ r' t ih =>
      refine .cons ?_ ih
      show (if a.1 = ks m then (a.1, v) else a).1 = ks (if b.1 = m then (b.1, x) else b).1 ∧ R H (if a.1 = ks m then (a.1, v) else a).2 (if b.1 = m then (b.1, x) else b).2
      by_cases e : b.1 = m
      · rw [if_pos e, if_pos (by rw [r'.1, e])]
        exact ⟨r'.1, r⟩
      · rw [if_neg e, if_neg (fun z => e (ks_inj (by rw [← r'.1, z])))]
        exact r'
  · rw [if_neg (fun z => hk (hany.mp z)), if_neg hk]
    clear hany hk
    unfold DP at h ⊢
    induction h with
    | nil => exact .cons ⟨rfl, r⟩ .nil
    | @cons a b l₁ l₂ r' t ih => exact .cons r' ih
theorem DA.put (h : DA R H d D) (s : Stb R) {a : Addr} {m : List Nat} {v : V} {x : α} (hm : TN H a m) (r : R H v x) (hl : D.length < sizeLine) : ∃ H', DPut H d (.ref a) v H' ∧ Kp [d] H H' ∧ DA R H' d (pt D m x) := by
  obtain ⟨kvs, e, p⟩ := h
  have k : Kp [d] H (upd H d (.dT (putK kvs (ks m) v))) := Kp.put (by rw [e]; trivial) List.mem_cons_self _
  exact ⟨_, DPut.t e (by rw [ks_kV]; exact hm) (by rw [p.length]; exact hl), k, _, upd_same, (p.put r).st s k.tup⟩
theorem DP.at (h : DP R H kvs D) {i : Nat} {k : List L2.Key} {v : V} (e : kvs[i]? = some (k, v)) : ∃ m x, D[i]? = some (m, x) ∧ k = ks m ∧ R H v x := by
  obtain ⟨b, hb, r1, r2⟩ := paired_get h e
  exact ⟨b.1, b.2, hb, r1, r2⟩
theorem DP.nil_iff (h : DP R H kvs D) : kvs = [] ↔ D = [] := by
  have l := h.length
  constructor
  · intro e
    rw [e] at l
    exact List.eq_nil_of_length_eq_zero l.symm
  · intro e
    rw [e] at l
    exact List.eq_nil_of_length_eq_zero l
end
/-- locked from now on -/
theorem Kp.lock {xs : List Addr} {H : Hp} {d : Addr} {kvs : List (List L2.Key × V)} {o : Obj} (e : H d = some (.dT kvs)) (hx : d ∈ xs) : Kp xs H (upd H d (.frz o (.dT kvs))) := Kp.put (by rw [e]; trivial) hx _
end Rs


set_option Elab.async false
set_option linter.all false
set_option maxRecDepth 100000
set_option maxHeartbeats 4000000
/-! the kit's rules with the heap behind them told by what stays -/
namespace Rs
open PySem PySem.Spec PyProof.Rows L2
section
variable {X : Cx}
theorem pe_imp {e : Expr} {t t' : TE} (h : PE X e t) (i : ∀ σ H Q, t' σ H Q → t σ H Q) : PE X e t' := ⟨fun pins s σ H Q I q => h.run pins s σ H Q I (i σ H Q q)⟩
theorem op_imp {f : Value → Value → Sem Value} {r r' : R2} (h : OpR X f r) (i : ∀ x y H Q, r' x y H Q → r x y H Q) : OpR X f r' := fun pins s σ H x y v u Q I rx ry q => h pins s σ H x y v u Q I rx ry (i x y H Q q)
theorem call_imp {f : Value} {r r' : List V → Hp → VK → Prop} (h : CallR X f r) (i : ∀ xs H Q, r' xs H Q → r xs H Q) : CallR X f r' := fun pins s σ H xs us Q I rx q => h pins s σ H xs us Q I rx (i xs H Q q)
/-- a new object o -/
def NewAt (H : Hp) (o : HO) (k : Addr → Hp → Prop) : Prop := ∀ p H', H p = none → Kp [] H H' → H' p = some o → k p H'
theorem NewAt.of {H : Hp} {o : HO} {k : Addr → Hp → Prop} (h : NewAt H o k) : ∀ p, H p = none → k p (upd H p o) := fun p hp => h p _ hp (Kp.new hp o) upd_same
/-- the object at p is now o -/
def PutAt (H : Hp) (p : Addr) (o : HO) (k : Hp → Prop) : Prop := ∀ H', Kp [p] H H' → H' p = some o → k H'
theorem PutAt.of {H : Hp} {p : Addr} {o : HO} {k : Hp → Prop} (h : PutAt H p o k) (hm : Mut (H p)) : k (upd H p o) := h _ (Kp.put hm List.mem_cons_self o) upd_same

def tTupN (t : TA) : TE := fun σ H Q => t σ H fun xs H1 => xs.length ≤ sizeLine ∧ NewAt H1 (.tup xs) fun p H2 => Q (.ref p) H2
def tLstN (t : TA) : TE := fun σ H Q => t σ H fun xs H1 => xs.length ≤ sizeLine ∧ NewAt H1 (.lst xs) fun p H2 => Q (.ref p) H2
def tDctN : TE := fun _ H Q => NewAt H (.dT []) fun p H2 => Q (.ref p) H2
/-- argument lists are monotone -/
structure PAm (t : TA) : Prop where
  mono : ∀ σ H Q Q', (∀ xs H1, Q xs H1 → Q' xs H1) → t σ H Q → t σ H Q'
theorem pe_tupN {es : List Expr} {t : TA} {k : Nat} {pos : Pos} (h : PA X es t) : PE X (.Tuple es k pos) (tTupN t) := by
  refine ⟨fun pins s σ H Q I hq => ?_⟩
  refine wpAny_Tuple_spliced (thn (h.run pos pins s σ H _ I hq) fun us s1 ⟨xs, H1, I1, r, z, q⟩ => ⟨by rw [← r.length]; exact z, ?_⟩)
  have hf : H1 s1.heap.objs.size = none := I1.hok.fresh (Nat.le_refl _)
  refine ⟨.ref s1.heap.objs.size, upd H1 s1.heap.objs.size (.tup xs), I1.laid (t' := s1.toks) (fun b u e => Heap.get?_push_of_some _ e) (Nat.le_refl _) ?_, rfl, q.of _ hf⟩
  exact ⟨z, us, r, ⟨_, Heap.get?_push_size _ rfl, rfl, _, rfl⟩⟩
theorem pe_lstN {es : List Expr} {t : TA} {pos : Pos} (h : PA X es t) : PE X (.List es pos) (tLstN t) := by
  refine ⟨fun pins s σ H Q I hq => ?_⟩
  refine wpAny_List_spliced (thn (h.run pos pins s σ H _ I hq) fun us s1 ⟨xs, H1, I1, r, z, q⟩ => ⟨by rw [← r.length]; exact z, ?_⟩)
  have hf : H1 s1.heap.objs.size = none := I1.hok.fresh (Nat.le_refl _)
  refine ⟨.ref s1.heap.objs.size, upd H1 s1.heap.objs.size (.lst xs), I1.laid (t' := s1.toks) (fun b u e => Heap.get?_push_of_some _ e) (Nat.le_refl _) ?_, rfl, q.of _ hf⟩
  exact ⟨z, us, 0, r, Heap.get?_push_size _ rfl⟩
theorem pe_dctN {pos : Pos} : PE X (.Dict [] [] pos) tDctN := pe_imp pe_dnewT fun _ _ _ q => q.of
/-- tuple(a list) -/
def rTupL : List V → Hp → VK → Prop := fun xs H Q => ∃ p ys, xs = [.ref p] ∧ H p = some (.lst ys) ∧ NewAt H (.tup ys) fun q H' => Q (.ref q) H'
theorem call_tupL : CallR X (.type "tuple") rTupL := call_imp call_tuple_of fun xs H Q ⟨p, ys, e, h, q⟩ => ⟨p, ys, e, .inl ⟨SqL.of h, q.of⟩⟩
/-- xs.append(y) -/
def rAppN : V → List V → Hp → VK → Prop := fun x vs H Q => ∃ l xs y, x = .ref l ∧ vs = [y] ∧ H l = some (.lst xs) ∧ xs.length < sizeLine ∧ PutAt H l (.lst (xs ++ [y])) fun H' => Q .non H'
theorem mt_appN : MtR X "list.append" rAppN := fun pins s σ H x xs v us Q I rx rxs q => by
  obtain ⟨l, ys, y, ex, ev, hl, hz, q⟩ := q
  exact mt_append pins s σ H x xs v us Q I rx rxs ⟨l, ys, y, ex, ev, hl, hz, q.of (by rw [hl]; trivial)⟩
/-- xs + ys of lists -/
def rCatN : R2 := fun x y H Q => ∃ l b xs zs, x = .ref l ∧ y = .ref b ∧ H l = some (.lst xs) ∧ H b = some (.lst zs) ∧ xs.length + zs.length ≤ sizeLine ∧ NewAt H (.lst (xs ++ zs)) fun p H' => Q (.ref p) H'
theorem op_catN : OpR X (binaryOp .Add) rCatN := op_imp op_cat fun x y H Q ⟨l, b, xs, zs, e1, e2, h1, h2, z, q⟩ => ⟨l, b, xs, zs, e1, e2, h1, h2, z, q.of⟩
/-- t + u of tuples: what stands at the answer -/
def rCatTN : R2 := fun x y H Q => ∃ a b xs ys, x = .ref a ∧ y = .ref b ∧ H a = some (.tup xs) ∧ H b = some (.tup ys) ∧ xs.length + ys.length ≤ sizeLine ∧ ∀ p H', Kp [] H H' → H' p = some (.tup (xs ++ ys)) → Q (.ref p) H'
theorem op_catTN : OpR X (binaryOp .Add) rCatTN := op_imp op_catA fun x y H Q ⟨a, b, xs, ys, e1, e2, h1, h2, z, q⟩ =>
  ⟨a, b, xs, ys, e1, e2, SqT.of h1, SqT.of h2, z, fun e => q b H (Kp.refl H) (by rw [e]; exact h2), fun _ e => q a H (Kp.refl H) (by rw [e, List.append_nil]; exact h1), fun _ _ p hp => q p _ (Kp.new hp _) upd_same⟩
/-- t[lo:hi] of a tuple -/
def rSlTN : V → Option Int → Option Int → Hp → VK → Prop := fun x lo hi H Q => ∃ a xs, x = .ref a ∧ H a = some (.tup xs) ∧ ∀ p H', Kp [] H H' → H' p = some (.tup (cutV xs lo hi)) → Q (.ref p) H'
theorem cut_all {xs : List V} {lo hi : Option Int} (h : HT.sIx xs.length 0 lo = 0 ∧ HT.sIx xs.length xs.length hi = xs.length) : cutV xs lo hi = xs := by
  unfold cutV
  rw [h.1, h.2, List.drop_zero, Nat.sub_zero, List.take_length]
theorem sl_tupN : SlR X rSlTN := by
  intro pins s σ H x v vl vu lo hi sl Q I rx hs pl pu h
  obtain ⟨a, xs, e, h, q⟩ := h
  exact sl_tupA pins s σ H x v vl vu lo hi sl Q I rx hs pl pu ⟨a, xs, e, SqT.of h, fun z => q a H (Kp.refl H) (by rw [cut_all z]; exact h), fun _ p hp => q p _ (Kp.new hp _) upd_same⟩
end
/-- list(range(..)), tuple(range(..)) -/
def tLstRgN (te : L2.St → Hp → (Int → Int → Hp → Prop) → Prop) : TE := fun σ H Q => te σ H fun a b H1 => RgOk a b ∧ NewAt H1 (.lst (rgV a b)) fun q H2 => Q (.ref q) H2
def tTupRgN (te : L2.St → Hp → (Int → Int → Hp → Prop) → Prop) : TE := fun σ H Q => te σ H fun a b H1 => RgOk a b ∧ NewAt H1 (.tup (rgV a b)) fun q H2 => Q (.ref q) H2
theorem rgV_nvs (n : Nat) : rgV 0 (n : Int) = nvs (List.range n) := by
  unfold rgV nvs
  have e : ((n : Int) - 0).toNat = n := by omega
  rw [e]
  refine List.map_congr_left fun i _ => ?_
  show V.int (0 + (i : Int)) = V.int (i : Int)
  rw [Int.zero_add]
section
variable {X : Cx} {e : Expr} {p pos : Pos}
theorem pe_listR1 {a : Expr} {ta : TE} {q pos2 : Pos} (hc : X.calm = true) (hg : Gl X "list") (hm : X.mg "list" = none) (hg2 : Gl X "range") (hm2 : X.mg "range" = none) (ha : PE X a ta)
    (na : starEach [a] X.env = (false, eval a X.env) :: starEach [] X.env := by rfl) (nb : starEach [.Call (.Name "range" q) [a] [] pos] X.env = (false, eval (.Call (.Name "range" q) [a] [] pos) X.env) :: starEach [] X.env := by rfl) :
    PE X (.Call (.Name "list" p) [.Call (.Name "range" q) [a] [] pos] [] pos2) (tLstRgN (tRg1 ta)) := by
  refine ⟨fun pins s σ H Q I h => ?_⟩
  have he := prg_1 (X := X) (p := q) (pos := pos) hg2 hm2 ha na
  refine Call_ (ld_blt I hg hm boot_list (PyProof.Rows.callWith_type1 (args_cons (thn (he pins s σ H _ I h) fun x s1 ⟨r, a, b, t, u, v, H1, ex, hr, I1, ok, q⟩ => args_nil ?_) nb) nb))
  subst ex
  obtain ⟨b1, b2, b3, b4, b5⟩ := ok
  refine call_list_range (n := (b - a).toNat) (I1.ok.hd hc) hr (small_one b1 b2 b3 b4) (rangeSize_nat a b) b5 fun h' tk acc c' hk e' hi => ?_
  refine ⟨.ref s1.heap.objs.size, upd H1 s1.heap.objs.size (.lst (rgV a b)), I1.laid hk (Nat.le_refl _) (show ObjOk X.prog X.w _ _ _ (.lst (rgV a b)) from ⟨?_, acc.toList, c', vals_rg hi, ?_⟩), rfl, q.of _ (I1.hok.fresh (Nat.le_refl _))⟩
  · rw [rgV_length, sizeLine_eq]; omega
  · rw [Array.toArray_toList]; exact e'
theorem pe_tupR1 {a : Expr} {ta : TE} {q pos2 : Pos} (hc : X.calm = true) (hg : Gl X "tuple") (hm : X.mg "tuple" = none) (hg2 : Gl X "range") (hm2 : X.mg "range" = none) (ha : PE X a ta)
    (na : starEach [a] X.env = (false, eval a X.env) :: starEach [] X.env := by rfl) (nb : starEach [.Call (.Name "range" q) [a] [] pos] X.env = (false, eval (.Call (.Name "range" q) [a] [] pos) X.env) :: starEach [] X.env := by rfl) :
    PE X (.Call (.Name "tuple" p) [.Call (.Name "range" q) [a] [] pos] [] pos2) (tTupRgN (tRg1 ta)) := by
  refine ⟨fun pins s σ H Q I h => ?_⟩
  have he := prg_1 (X := X) (p := q) (pos := pos) hg2 hm2 ha na
  refine Call_ (ld_blt I hg hm boot_tuple (PyProof.Rows.callWith_type1 (args_cons (thn (he pins s σ H _ I h) fun x s1 ⟨r, a, b, t, u, v, H1, ex, hr, I1, ok, q⟩ => args_nil ?_) nb) nb))
  subst ex
  obtain ⟨b1, b2, b3, b4, b5⟩ := ok
  refine call_tuple_range (n := (b - a).toNat) (I1.ok.hd hc) hr (small_one b1 b2 b3 b4) (rangeSize_nat a b) b5 fun h' tk acc hk hi => ?_
  have I2 : Inv X pins σ H1 { s1 with heap := h', toks := tk } := I1.kept hk
  refine ⟨.ref h'.objs.size, upd H1 h'.objs.size (.tup (rgV a b)), I2.laid (t' := tk) (fun c o e => Heap.get?_push_of_some _ e) (Nat.le_refl _) (show ObjOk X.prog X.w _ _ _ (.tup (rgV a b)) from ⟨?_, acc.toList, vals_rg hi, ?_⟩), rfl, q.of _ (I2.hok.fresh (Nat.le_refl _))⟩
  · rw [rgV_length, sizeLine_eq]; omega
  · rw [Array.toArray_toList]; exact IsTup.new _ _
end
/-- within a comprehension: Jv by the turn, the list so far, the heap -/
def PvL (D : Addr) (xs : List Addr) (H1 : Hp) (Jv : Nat → List V → Hp → Prop) (i : Nat) (H : Hp) : Prop := ∃ l, Kp (D :: xs) H1 H ∧ H D = some (.lst l) ∧ Jv i l H
theorem PvL.add {D : Addr} {xs : List Addr} {H1 H4 : Hp} {Jv : Nat → List V → Hp → Prop} {i : Nat} {l : List V} {y : V} (k : Kp (D :: xs) H1 H4) (e : H4 D = some (.lst l)) (z : l.length < sizeLine) (j : ∀ H5, Kp (D :: xs) H4 H5 → Jv (i + 1) (l ++ [y]) H5) :
    ∃ acc, H4 D = some (.lst acc) ∧ acc.length < sizeLine ∧ PvL D xs H1 Jv (i + 1) (upd H4 D (.lst (acc ++ [y]))) := by
  have kp : Kp (D :: xs) H4 (upd H4 D (.lst (l ++ [y]))) := Kp.put (by rw [e]; trivial) List.mem_cons_self _
  exact ⟨l, e, z, l ++ [y], k.trans kp, upd_same, j _ kp⟩
theorem lcN {J : It} {n : Nat} {G : Hp → Prop} {Y : Nat → Hp → V → Hp → Prop} (w : Walk J n G Y) {g : TG} {tt : TT} {te : TE} {vs : List Nat} {σ : L2.St} {H1 : Hp} {D : Addr} {Qd : Hp → Prop} (xs : List Addr) (Jv : Nat → List V → Hp → Prop) (hD : H1 D = none)
    (h0 : ∀ H, Kp xs H1 H → Jv 0 [] H) (hG : ∀ i l H, i ≤ n → Kp (D :: xs) H1 H → Jv i l H → G H)
    (hs : ∀ i x l H H', i < n → Kp (D :: xs) H1 H → H D = some (.lst l) → Jv i l H → Y i H x H' → g x (wipe σ vs) H' fun σ2 H2 => wipe σ2 vs = wipe σ vs ∧ tt σ2 H2 fun b H3 =>
      if b = true then te σ2 H3 fun y H4 => ∃ acc, H4 D = some (.lst acc) ∧ acc.length < sizeLine ∧ PvL D xs H1 Jv (i + 1) (upd H4 D (.lst (acc ++ [y]))) else PvL D xs H1 Jv (i + 1) H3)
    (hd : ∀ l H, Kp xs H1 H → H D = some (.lst l) → Jv n l H → Qd H) :
    ∃ W : Nat → Nat → Hp → Prop, (∃ m, W 0 m (upd H1 D (.lst []))) ∧ ∀ i m H, W i m H →
      (J.stop i H ∧ Qd H) ∨ (J.go i H ∧ ∃ Nx : Hp → Prop, (∀ H', Nx H' → ∃ m', m' < m ∧ W (i + 1) m' H') ∧ ∀ x H', J.yld i H x H' → g x (wipe σ vs) H' fun σ2 H2 => wipe σ2 vs = wipe σ vs ∧ tt σ2 H2 fun b H3 =>
        if b = true then te σ2 H3 fun y H4 => ∃ acc, H4 D = some (.lst acc) ∧ acc.length < sizeLine ∧ Nx (upd H4 D (.lst (acc ++ [y]))) else Nx H3) :=
  lc_it w (PvL D xs H1 Jv) ⟨[], Kp.new hD _, upd_same, h0 _ (Kp.new hD _)⟩ (fun i H hi ⟨l, k, _, j⟩ => hG i l H hi k j) (fun i x H H' hi ⟨l, k, e, j⟩ y => hs i x l H H' hi k e j y) fun H ⟨l, k, e, j⟩ => hd l H (k.drop hD) e j
theorem walk_zipT {K : PySem.W.Frag} {a b : Addr} {xs ys : List V} {n : Nat} (hn : n = min xs.length ys.length) : Walk (RZ.ItzT K a b) n (fun H => SqT K H a xs ∧ SqT K H b ys) (YPair (fun i => xs[i]?) (fun i => ys[i]?)) := by
  subst hn
  refine ⟨fun i _ hi q => ?_, fun _ q => ⟨xs, ys, q.1, q.2, by omega⟩, fun i H v H' _ q y => ?_⟩
  · have h1 : i < xs.length := by omega
    have h2 : i < ys.length := by omega
    exact ⟨xs, ys, xs[i], ys[i], q.1, q.2, by simp [h1], by simp [h2]⟩
  · obtain ⟨T, x, z, h1, h2, h3, h4, h5⟩ := y
    exact ⟨T, x, z, h1, h2, h3, h4 xs q.1, h5 ys q.2⟩
end Rs


set_option Elab.async false
set_option linter.all false
set_option maxRecDepth 100000
set_option maxHeartbeats 4000000
namespace Rs
open PySem PySem.Spec PyProof.Rows L2
/-- built-in names stand -/
structure Bi (mg : Str → Option Value) : Prop where
  len : mg "len" = none
  range : mg "range" = none
  tuple : mg "tuple" = none
  list : mg "list" = none
  zip : mg "zip" = none
  isi : mg "isinstance" = none
  int : mg "int" = none
  bool : mg "bool" = none
  str : mg "str" = none
  max : mg "max" = none
  sorted : mg "sorted" = none
  all : mg "all" = none
  set : mg "set" = none
  enum : mg "enumerate" = none
abbrev sTouch : Stmt := topS 21
abbrev sReads : Stmt := topS 27
abbrev sLReads : Stmt := topS 35
/-! ### touches_of -/
def spTouch : Sp := fun vs H Q _ => ∃ a t, vs = [.ref a] ∧ TestAt H a t ∧ Q (nv (t.w.length + 2)) H
section
variable {P : Program} {w : World} {K : PySem.W.Frag} {mg : Str → Option Value} {base : Heap} {f : Addr} {fd : FuncData}
theorem scTouch : FnScope ["test"] ["test"] (defScope sTouch) := ⟨rfl, rfl, rfl, by decide +kernel, rfl, by decide +kernel, by decide +kernel⟩
theorem ok_touch (F : Fun K "touches_of" "touches_of" sTouch f fd) (B : Bi mg) : FnOk P w K mg base CX0 1 f fd ["test"] spTouch := by
  refine F.ok scTouch (fun vs H Q E h => ?_) (fun cdv A outer s H vs Q E hr h => ?_)
  · obtain ⟨a, t, rfl, _⟩ := h
    rfl
  obtain ⟨a, t, rfl, ⟨b, ha, hb⟩, q⟩ := h
  refine ⟨_, pss_one (ps_ret (pe_op op_add (pe_callB call_len_seq rfl B.len boot_len (pa_cons (pe_ix ix_tup (pv 0) pe_int (fun _ _ => rfl)) pa_nil)) pe_int)), ?_⟩
  refine ⟨_, rfl, a, _, 1, .ref b, rfl, rfl, SqT.of ha, rfl, b, _, rfl, .inr (SqT.of hb), _, 2, rfl, rfl, ?_⟩
  rw [nvs_length]
  exact q
/-! ### reads_mark, _law_reads -/
def spReads : Sp := fun vs H Q _ => ∃ ha ta hs pl lot i h t, vs = [.ref ha, .ref ta] ∧ Good hs pl lot ∧ hs[i]? = some h ∧ Hab1 H ha h ∧ TestAt H ta t ∧ t.ok lot ∧ Q (.bl (rd hs t i)) H
theorem reads_at {H : Hp} {ha : Addr} {hs : HabL} {pl i q x : Nat} {lot : List Nat} {h : List (List Nat)} (G : Good hs pl lot) (hi : hs[i]? = some h) (hh : Hab1 H ha h) (hq : q < pl) (hx : x < pl) :
    ∃ xs b ys, H ha = some (.tup xs) ∧ atI xs (q : Int) = some (.ref b) ∧ H b = some (.tup ys) ∧ atI ys (x : Int) = some (nv (stp hs i q x)) := by
  obtain ⟨h', r, y, e1, e2, e3, e4, _⟩ := stp_some G (List.getElem?_eq_some_iff.mp hi).1 hq hx
  rw [hi] at e1
  cases e1
  obtain ⟨xs, e5, _, f5⟩ := hh.at
  obtain ⟨b, e6, e7⟩ := f5 q r e2
  exact ⟨xs, b, _, e5, atI_nat e6, e7, atI_nat (by rw [e4]; exact nvs_get e3)⟩
theorem mk_take {hs : HabL} {p i q j : Nat} {w : List Nat} (h : w[j]? = some q) : mk hs p (w.take (j + 1)) i = stp hs i q (mk hs p (w.take j) i) := by
  rw [take_snoc h, mk_snoc]
theorem rd_dec {hs : HabL} {t : Ts} {i : Nat} : decide (nv (mk hs t.p t.w i) = nv t.r) = rd hs t i := by
  unfold rd
  by_cases e : mk hs t.p t.w i = t.r
  · rw [decide_eq_true e, e]
    exact decide_eq_true rfl
  · rw [decide_eq_false e]
    exact decide_eq_false fun z => e (nv_inj z)
theorem scReads : FnScope ["habit", "test", "mark", "place"] ["habit", "test"] (defScope sReads) := ⟨rfl, rfl, rfl, by decide +kernel, rfl, by decide +kernel, by decide +kernel⟩
theorem ok_reads (F : Fun K "reads_mark" "reads_mark" sReads f fd) : FnOk P w K mg base CX0 1 f fd ["habit", "test"] spReads := by
  refine F.ok scReads (fun vs H Q E h => ?_) (fun cdv A outer s H vs Q E hr h => ?_)
  · obtain ⟨ha, ta, hs, pl, lot, i, h, t, rfl, _⟩ := h
    rfl
  obtain ⟨ha, ta, hs, pl, lot, i, h, t, rfl, G, hi, hh, ⟨b, ht, hb⟩, ok, q⟩ := h
  refine ⟨_, pss_cons (ps_set (i := 2) scReads.nd rfl (.inl rfl) (pe_ix ix_tup (pe_ix ix_tup (pv 0) (pe_ix ix_tup (pv 1) pe_int (fun _ _ => rfl)) (fun _ _ => rfl)) (pe_ix ix_tup (pv 1) pe_int (fun _ _ => rfl)) (fun _ _ => rfl)))
    (pss_cons (ps_for PassesOwn.never rfl (pi_tup (pe_ix ix_tup (pv 1) pe_int (fun _ _ => rfl))) (pg_name (i := 3) scReads.nd rfl (.inl rfl))
      (pss_one (ps_set (i := 2) scReads.nd rfl (.inl rfl) (pe_ix ix_tup (pe_ix ix_tup (pv 0) (pv 3) (fun _ _ => rfl)) (pv 2) (fun _ _ => rfl)))))
    (pss_one (ps_ret (pe_cmpR op_eq (pv 2) (pe_ix ix_tup (pv 1) pe_int (fun _ _ => rfl)) (nomark _))))), ?_⟩
  have hil : i < hs.length := (List.getElem?_eq_some_iff.mp hi).1
  have hp := G.lt _ ok.1
  obtain ⟨xs, c, ys, e1, e2, e3, e4⟩ := reads_at G hi hh hp hp
  refine ⟨_, rfl, _, rfl, ta, _, 0, _, rfl, rfl, SqT.of ht, rfl, ha, xs, _, _, rfl, rfl, SqT.of e1, e2, _, rfl, ta, _, 0, _, rfl, rfl, SqT.of ht, rfl, c, ys, _, _, rfl, rfl, SqT.of e3, e4, ?_⟩
  refine ⟨_, rfl, ta, _, 1, _, rfl, rfl, SqT.of ht, rfl, b, rfl, ⟨_, SqT.of hb⟩, ?_⟩
  refine for_tup (K := K) (a := b) (xs := nvs t.w) (fun j σ H' => ∃ v, σ = [some (.ref ha), some (.ref ta), some (nv (mk hs t.p (t.w.take j) i)), v] ∧ H' = H) ⟨none, rfl, rfl⟩ (fun j σ H' _ ⟨_, _, e⟩ => by rw [e]; exact SqT.of hb) ?_ ?_
  · rintro j x σ H' hx ⟨v, rfl, rfl⟩
    obtain ⟨n, hn, rfl⟩ := nvs_at hx
    have hnl : n ∈ t.w := List.mem_of_getElem? hn
    obtain ⟨xs, c, ys, e1, e2, e3, e4⟩ := reads_at G hi hh (G.lt _ (ok.2.1 n hnl)) (mk_lt G hil ok.1 fun z hz => ok.2.1 z (List.mem_of_mem_take hz) : mk hs t.p (t.w.take j) i < pl)
    refine ⟨_, rfl, _, rfl, ha, xs, _, _, rfl, rfl, SqT.of e1, e2, _, rfl, c, ys, _, _, rfl, rfl, SqT.of e3, e4, some (nv n), ?_, rfl⟩
    rw [mk_take hn]
    rfl
  · rintro σ H' ⟨v, rfl, rfl⟩
    refine ⟨_, rfl, _, rfl, ta, _, 2, _, rfl, rfl, SqT.of ht, rfl, rfl, ?_⟩
    rw [nvs_length, List.take_length]
    show Q (.bl (decide (nv (mk hs t.p t.w i) = nv t.r))) H'
    rw [rd_dec]
    exact q
end
end Rs


set_option Elab.async false
set_option linter.all false
set_option maxRecDepth 100000
set_option maxHeartbeats 4000000
/-! lists of number tuples; data for == of any depth -/
namespace Rs
open PySem PySem.Spec PyProof.Rows L2
def RefsN (H : Hp) (as : List Addr) (L : List (List Nat)) : Prop := Paired (fun b q => TN H b q) as L
/-- at l a list of tuples of numbers -/
def LT (H : Hp) (l : Addr) (L : List (List Nat)) : Prop := ∃ as : List Addr, H l = some (.lst (as.map V.ref)) ∧ RefsN H as L
theorem RefsN.st {H H' : Hp} {as : List Addr} {L : List (List Nat)} (x : RefsN H as L) (k : Tk H H') : RefsN H' as L := paired_imp x fun b q z => k _ _ z
theorem RefsN.length {H : Hp} {as : List Addr} {L : List (List Nat)} (x : RefsN H as L) : as.length = L.length := Paired.length x
theorem LT.kp {xs : List Addr} {H H' : Hp} {l : Addr} {L : List (List Nat)} (x : LT H l L) (k : Kp xs H H') (hx : l ∉ xs) : LT H' l L := by
  obtain ⟨as, e, p⟩ := x
  exact ⟨as, k.lst e hx, p.st k.tup⟩
theorem LT.nil {H : Hp} {l : Addr} (e : H l = some (.lst [])) : LT H l [] := ⟨[], e, .nil⟩
theorem paired_snoc {α β : Type} {R : α → β → Prop} {as : List α} {L : List β} {b : α} {m : β} (h : Paired R as L) (r : R b m) : Paired R (as ++ [b]) (L ++ [m]) := by
  induction h with
  | nil => exact .cons r .nil
  | cons r' t ih => exact .cons r' ih
theorem LT.app {H : Hp} {l b : Addr} {L : List (List Nat)} {m : List Nat} (x : LT H l L) (hb : TN H b m) (z : L.length < sizeLine) :
    ∃ xs, H l = some (.lst xs) ∧ xs.length < sizeLine ∧ PutAt H l (.lst (xs ++ [.ref b])) fun H' => Kp [l] H H' ∧ LT H' l (L ++ [m]) := by
  obtain ⟨as, e, p⟩ := x
  refine ⟨_, e, by rw [List.length_map, p.length]; exact z, fun H' k e' => ⟨k, as ++ [b], by rw [e', List.map_append]; rfl, ?_⟩⟩
  exact paired_snoc (p.st k.tup) (k.tup _ _ hb)
theorem LT.at {H : Hp} {l : Addr} {L : List (List Nat)} (x : LT H l L) {i : Nat} {m : List Nat} (h : L[i]? = some m) : ∃ xs b, H l = some (.lst xs) ∧ xs[i]? = some (.ref b) ∧ TN H b m := by
  obtain ⟨as, e, p⟩ := x
  have hi : i < as.length := by rw [p.length]; exact (List.getElem?_eq_some_iff.mp h).1
  obtain ⟨m', e', r⟩ := paired_get p (List.getElem?_eq_getElem hi)
  rw [h] at e'
  cases e'
  exact ⟨_, as[i], e, by rw [List.getElem?_map, List.getElem?_eq_getElem hi]; rfl, r⟩
theorem RefsN.at {H : Hp} {as : List Addr} {L : List (List Nat)} (p : RefsN H as L) {i : Nat} {v : V} (h : (as.map V.ref)[i]? = some v) : ∃ b m, v = .ref b ∧ L[i]? = some m ∧ TN H b m := by
  rw [List.getElem?_map] at h
  cases e : as[i]? with
  | none => rw [e] at h; cases h
  | some b =>
    rw [e] at h
    obtain ⟨m, e', r⟩ := paired_get p e
    exact ⟨b, m, (Option.some.inj h).symm, e', r⟩
theorem sizeLine_big : 100000 < sizeLine := by rw [sizeLine_eq]; decide
/-! ### data -/
def nD (ns : List Nat) : PyData := .tuple (ns.map fun n : Nat => .int n)
def ntD (L : List (List Nat)) : PyData := .list (L.map nD)
theorem dpAll_nvs {K : PySem.W.Frag} {H : Hp} : ∀ ns : List Nat, DpAll K H (nvs ns) (ns.map fun n : Nat => .int n)
  | [] => .nil
  | n :: ns => .cons (.int _) (dpAll_nvs ns)
theorem dp_n {K : PySem.W.Frag} {H : Hp} {a : Addr} {ns : List Nat} (h : TN H a ns) : Dp K H (.ref a) (nD ns) := .tup (SqT.of h) (dpAll_nvs ns)
theorem dpAll_refs {K : PySem.W.Frag} {H : Hp} : ∀ {as : List Addr} {L : List (List Nat)}, RefsN H as L → DpAll K H (as.map V.ref) (L.map nD) := by
  intro as L h
  unfold RefsN at h
  induction h with
  | nil => exact .nil
  | cons r t ih => exact .cons (dp_n r) ih
theorem dp_nt {K : PySem.W.Frag} {H : Hp} {l : Addr} {L : List (List Nat)} (h : LT H l L) : Dp K H (.ref l) (ntD L) := by
  obtain ⟨as, e, p⟩ := h
  exact .lst (SqL.of e) (dpAll_refs p)
theorem dp_lnil {K : PySem.W.Frag} {H : Hp} {l : Addr} (e : H l = some (.lst [])) : Dp K H (.ref l) (.list []) := .lst (SqL.of e) .nil
theorem nD_lay (ns : List Nat) : (nD ns).canLay0 = true := by
  unfold nD
  have : ∀ ns : List Nat, PyData.canLayAll0 (ns.map fun n : Nat => PyData.int n) = true := by
    intro ns
    induction ns with
    | nil => simp [PyData.canLayAll0]
    | cons n ns ih => simp only [List.map_cons, PyData.canLayAll0, PyData.canLay0, ih, Bool.and_true]
  simp only [PyData.canLay0, this]
theorem nD_depth (ns : List Nat) : (nD ns).depth ≤ 1 := by
  unfold nD
  have : ∀ ns : List Nat, PyData.depthAll (ns.map fun n : Nat => PyData.int n) ≤ 0 := by
    intro ns
    induction ns with
    | nil => simp [PyData.depthAll]
    | cons n ns ih =>
      simp only [List.map_cons, PyData.depthAll, PyData.depth]
      omega
  have := this ns
  simp only [PyData.depth]
  omega
theorem shaped_of {d : PyData} (h1 : d.canLay0 = true) (h2 : d.depth ≤ 64) : SeqAt.shaped d = true := by
  show (d.canLay0 && decide (d.depth ≤ 64)) = true
  rw [Bool.and_eq_true]
  exact ⟨h1, decide_eq_true h2⟩
theorem nD_shaped (ns : List Nat) : SeqAt.shaped (nD ns) = true := shaped_of (nD_lay ns) (Nat.le_trans (nD_depth ns) (by decide))
theorem ntD_lay : ∀ L : List (List Nat), PyData.canLayAll0 (L.map nD) = true
  | [] => by simp [PyData.canLayAll0]
  | m :: L => by simp only [List.map_cons, PyData.canLayAll0, nD_lay, ntD_lay L, Bool.and_true]
theorem ntD_depth : ∀ L : List (List Nat), PyData.depthAll (L.map nD) ≤ 1
  | [] => by simp [PyData.depthAll]
  | m :: L => by
    have h1 := nD_depth m
    have h2 := ntD_depth L
    simp only [List.map_cons, PyData.depthAll]
    omega
theorem ntD_shaped (L : List (List Nat)) : SeqAt.shaped (ntD L) = true := shaped_of (by unfold ntD; simp only [PyData.canLay0, ntD_lay]) (by
  have := ntD_depth L
  unfold ntD
  simp only [PyData.depth]
  omega)
theorem lnil_shaped : SeqAt.shaped (.list []) = true := ntD_shaped []
theorem nD_eqv : ∀ a b : List Nat, PyData.eqv (nD a) (nD b) = decide (a = b) := by
  have h : ∀ a b : List Nat, PyData.eqvAll (a.map fun n : Nat => PyData.int n) (b.map fun n : Nat => PyData.int n) = decide (a = b) := by
    intro a
    induction a with
    | nil =>
      intro b
      cases b with
      | nil => simp [PyData.eqvAll]
      | cons y b => simp [PyData.eqvAll]
    | cons x a ih =>
      intro b
      cases b with
      | nil => simp [PyData.eqvAll]
      | cons y b =>
        simp only [List.map_cons, PyData.eqvAll, PyData.eqv, ih b]
        by_cases e : x = y
        · subst e
          simp
        · have q : ((x : Int) == (y : Int)) = false := beq_eq_false_iff_ne.mpr (by omega)
          rw [q, Bool.false_and, decide_eq_false fun z => e (List.cons.inj z).1]
  intro a b
  unfold nD
  simp only [PyData.eqv]
  exact h a b
theorem ntD_nil (L : List (List Nat)) : PyData.eqv (ntD L) (.list []) = decide (L = []) := by
  unfold ntD
  cases L with
  | nil => simp [PyData.eqv, PyData.eqvAll]
  | cons m L => simp [PyData.eqv, PyData.eqvAll]
theorem ntD_any (L : List (List Nat)) (m : List Nat) : ((L.map nD).any fun z => PyData.eqv z (nD m)) = decide (m ∈ L) := by
  induction L with
  | nil => simp
  | cons x L ih =>
    rw [List.map_cons, List.any_cons, ih, nD_eqv]
    by_cases e : x = m
    · subst e
      simp
    · rw [decide_eq_false e, Bool.false_or]
      by_cases h : m ∈ L
      · rw [decide_eq_true h, decide_eq_true (List.mem_cons_of_mem _ h)]
      · rw [decide_eq_false h, decide_eq_false fun z => (List.mem_cons.mp z).elim (fun q => e q.symm) h]
theorem inV_nvs (x : Nat) (ns : List Nat) : inV (nv x) (nvs ns) = decide (x ∈ ns) := by
  unfold inV nvs
  induction ns with
  | nil => simp
  | cons y ns ih =>
    rw [List.map_cons, List.any_cons, ih]
    show (((y : Int) == (x : Int)) || decide (x ∈ ns)) = decide (x ∈ y :: ns)
    by_cases e : y = x
    · subst e
      simp
    · have q : ((y : Int) == (x : Int)) = false := beq_eq_false_iff_ne.mpr (by omega)
      rw [q, Bool.false_or]
      by_cases h : x ∈ ns
      · rw [decide_eq_true h, decide_eq_true (List.mem_cons_of_mem _ h)]
      · rw [decide_eq_false h, decide_eq_false fun z => (List.mem_cons.mp z).elim (fun q => e q.symm) h]
theorem flat_nvs (ns : List Nat) : (nvs ns).all flatV = true := by
  unfold nvs
  rw [List.all_map]
  exact List.all_eq_true.mpr fun _ _ => rfl
/-- while, by the turn -/
theorem while_n {c : TT} {tb : TS} {D : Ends} {σ : L2.St} {H : Hp} (N : Nat) (Pv : Nat → L2.St → Hp → Prop) (h0 : Pv 0 σ H)
    (hs : ∀ n σ H, Pv n σ H → c σ H fun b H1 => if b = true then (n < N ∧ tb { D with nx := Pv (n + 1), ct := Pv (n + 1), bk := D.nx } σ H1) else D.nx σ H1)
    (mono : ∀ σ H Q Q', (∀ b H1, Q b H1 → Q' b H1) → c σ H Q → c σ H Q') : tWhile c tb D σ H := by
  refine ⟨fun m σ H => ∃ n, m + n = N ∧ Pv n σ H, ⟨N, 0, rfl, h0⟩, ?_⟩
  rintro m σ H ⟨n, e, p⟩
  refine mono σ H _ _ (fun b H1 q => ?_) (hs n σ H p)
  cases b with
  | true =>
    obtain ⟨hn, q⟩ := q
    exact ⟨Pv (n + 1), fun σ' H' p' => ⟨m - 1, by omega, n + 1, by omega, p'⟩, q⟩
  | false => exact q
end Rs


set_option Elab.async false
set_option linter.all false
set_option maxRecDepth 100000
set_option maxHeartbeats 4000000
namespace Rs
open PySem PySem.Spec PyProof.Rows L2
section
variable {P : Program} {w : World} {K : PySem.W.Frag} {mg : Str → Option Value} {base : Heap} {f : Addr} {fd : FuncData}
theorem scLReads : FnScope ["_law_habit_here", "_law_test", "_law_mark", "_law_place"] ["_law_habit_here", "_law_test"] (defScope sLReads) := ⟨rfl, rfl, rfl, by decide +kernel, rfl, by decide +kernel, by decide +kernel⟩
theorem ok_lreads (F : Fun K "_law_reads" "_law_reads" sLReads f fd) : FnOk P w K mg base CX0 1 f fd ["_law_habit_here", "_law_test"] spReads := by
  refine F.ok scLReads (fun vs H Q E h => ?_) (fun cdv A outer s H vs Q E hr h => ?_)
  · obtain ⟨ha, ta, hs, pl, lot, i, h, t, rfl, _⟩ := h
    rfl
  obtain ⟨ha, ta, hs, pl, lot, i, h, t, rfl, G, hi, hh, ⟨b, ht, hb⟩, ok, q⟩ := h
  refine ⟨_, pss_cons (ps_set (i := 2) scLReads.nd rfl (.inl rfl) (pe_ix ix_tup (pe_ix ix_tup (pv 0) (pe_ix ix_tup (pv 1) pe_int (fun _ _ => rfl)) (fun _ _ => rfl)) (pe_ix ix_tup (pv 1) pe_int (fun _ _ => rfl)) (fun _ _ => rfl)))
    (pss_cons (ps_for PassesOwn.never rfl (pi_tup (pe_ix ix_tup (pv 1) pe_int (fun _ _ => rfl))) (pg_name (i := 3) scLReads.nd rfl (.inl rfl))
      (pss_one (ps_set (i := 2) scLReads.nd rfl (.inl rfl) (pe_ix ix_tup (pe_ix ix_tup (pv 0) (pv 3) (fun _ _ => rfl)) (pv 2) (fun _ _ => rfl)))))
    (pss_one (ps_ret (pe_cmpR op_eq (pv 2) (pe_ix ix_tup (pv 1) pe_int (fun _ _ => rfl)) (nomark _))))), ?_⟩
  have hil : i < hs.length := (List.getElem?_eq_some_iff.mp hi).1
  have hp := G.lt _ ok.1
  obtain ⟨xs, c, ys, e1, e2, e3, e4⟩ := reads_at G hi hh hp hp
  refine ⟨_, rfl, _, rfl, ta, _, 0, _, rfl, rfl, SqT.of ht, rfl, ha, xs, _, _, rfl, rfl, SqT.of e1, e2, _, rfl, ta, _, 0, _, rfl, rfl, SqT.of ht, rfl, c, ys, _, _, rfl, rfl, SqT.of e3, e4, ?_⟩
  refine ⟨_, rfl, ta, _, 1, _, rfl, rfl, SqT.of ht, rfl, b, rfl, ⟨_, SqT.of hb⟩, ?_⟩
  refine for_tup (K := K) (a := b) (xs := nvs t.w) (fun j σ H' => ∃ v, σ = [some (.ref ha), some (.ref ta), some (nv (mk hs t.p (t.w.take j) i)), v] ∧ H' = H) ⟨none, rfl, rfl⟩ (fun j σ H' _ ⟨_, _, e⟩ => by rw [e]; exact SqT.of hb) ?_ ?_
  · rintro j x σ H' hx ⟨v, rfl, rfl⟩
    obtain ⟨n, hn, rfl⟩ := nvs_at hx
    have hnl : n ∈ t.w := List.mem_of_getElem? hn
    obtain ⟨xs, c, ys, e1, e2, e3, e4⟩ := reads_at G hi hh (G.lt _ (ok.2.1 n hnl)) (mk_lt G hil ok.1 fun z hz => ok.2.1 z (List.mem_of_mem_take hz) : mk hs t.p (t.w.take j) i < pl)
    refine ⟨_, rfl, _, rfl, ha, xs, _, _, rfl, rfl, SqT.of e1, e2, _, rfl, c, ys, _, _, rfl, rfl, SqT.of e3, e4, some (nv n), ?_, rfl⟩
    rw [mk_take hn]
    rfl
  · rintro σ H' ⟨v, rfl, rfl⟩
    refine ⟨_, rfl, _, rfl, ta, _, 2, _, rfl, rfl, SqT.of ht, rfl, rfl, ?_⟩
    rw [nvs_length, List.take_length]
    show Q (.bl (decide (nv (mk hs t.p t.w i) = nv t.r))) H'
    rw [rd_dec]
    exact q
end
/-! ### marks_of -/
abbrev sMarks : Stmt := topS 19
/-- the entry (place, word) -/
def RM (H : Hp) (v : V) (x : Nat × List Nat) : Prop := ∃ a b, v = .ref a ∧ H a = some (.tup [nv x.1, .ref b]) ∧ TN H b x.2
theorem RM.stb : Stb RM := fun H H' v x k ⟨a, b, e, h1, h2⟩ => ⟨a, b, e, k _ _ h1, k _ _ h2⟩
def spMarks : Sp := fun vs H Q _ => ∃ ha la ga hs pl lot g, vs = [.ref ha, .ref la, .ref ga] ∧ Good hs pl lot ∧ Grp hs g ∧ HabsAt H ha hs ∧ TN H la lot ∧ TN H ga g ∧
  ∀ d D H', H d = none → Kp [] H H' → DA RM H' d D → MS hs lot g D → Q (.ref d) H'
/-- habits[i][q][x] -/
theorem habs_at {H : Hp} {ha : Addr} {hs : HabL} {pl i q x : Nat} {lot : List Nat} (G : Good hs pl lot) (hh : HabsAt H ha hs) (hi : i < hs.length) (hq : q < pl) (hx : x < pl) :
    ∃ zs c xs b ys, H ha = some (.tup zs) ∧ atI zs (i : Int) = some (.ref c) ∧ H c = some (.tup xs) ∧ atI xs (q : Int) = some (.ref b) ∧ H b = some (.tup ys) ∧ atI ys (x : Int) = some (nv (stp hs i q x)) := by
  obtain ⟨zs, e1, _, f1⟩ := hh.at
  obtain ⟨c, e2, h1⟩ := f1 i _ (List.getElem?_eq_getElem hi)
  obtain ⟨xs, b, ys, a1, a2, a3, a4⟩ := reads_at G (List.getElem?_eq_getElem hi) h1 hq hx
  exact ⟨zs, c, xs, b, ys, e1, atI_nat e2, a1, a2, a3, a4⟩
section
variable {P : Program} {w : World} {K : PySem.W.Frag} {mg : Str → Option Value} {base : Heap} {f : Addr} {fd : FuncData}
abbrev nMarks : List Str := ["habits", "lot", "group", "found", "layer", "place", "marks", "later", "moved", "index", "mark"]
theorem scMarks : FnScope nMarks ["habits", "lot", "group"] (defScope sMarks) := ⟨rfl, rfl, rfl, by decide +kernel, rfl, by decide +kernel, by decide +kernel⟩
theorem marks_step {hs : HabL} {g : List Nat} {p i n : Nat} (h : g[i]? = some n) : nvs (marks hs (g.take (i + 1)) p []) = nvs (marks hs (g.take i) p []) ++ [nv (stp hs n p p)] := by
  rw [take_snoc h]
  unfold marks
  rw [List.map_append, nvs_app]
  rfl
theorem mono_neNil {i : Nat} {σ : L2.St} {H : Hp} {Q Q' : Bool → Hp → Prop} (K : PySem.W.Frag) (h : ∀ b H1, Q b H1 → Q' b H1) (q : tTest (tOp (rNeD K) (tVar i) (tLstN tNil)) σ H Q) : tTest (tOp (rNeD K) (tVar i) (tLstN tNil)) σ H Q' := by
  obtain ⟨v, e, z, q⟩ := q
  refine ⟨v, e, z, fun p H' hp k e => ?_⟩
  obtain ⟨d, e', h1, h2, s1, s2, b, eb, q⟩ := q p H' hp k e
  exact ⟨d, e', h1, h2, s1, s2, b, eb, h _ _ q⟩
theorem mv_len (hs : HabL) : ∀ (g : List Nat) (q : Nat) (m : List Nat), (mv hs g q m).length ≤ g.length
  | [], _, _ => Nat.zero_le _
  | _ :: _, _, [] => Nat.zero_le _
  | i :: g, q, x :: m => Nat.succ_le_succ (mv_len hs g q m)
theorem ok_marks (F : Fun K "marks_of" "marks_of" sMarks f fd) (B : Bi mg) : FnOk P w K mg base CX0 1 f fd ["habits", "lot", "group"] spMarks := by
  refine F.ok scMarks (fun vs H Q E h => ?_) (fun cdv A outer s H vs Q E hr h => ?_)
  · obtain ⟨ha, la, ga, hs, pl, lot, g, rfl, _⟩ := h
    rfl
  obtain ⟨ha, la, ga, hs, pl, lot, g, rfl, G, hg, hh, hl, hgr, q⟩ := h
  have hu := hu_of hr
  have hu64 := hr.units
  refine ⟨_, pss_cons (ps_par (i := 3) (j := 4) rfl scMarks.nd rfl rfl (by decide) rfl rfl (pa_cons pe_dctN (pa_cons (pe_lstN pa_nil) pa_nil)) rfl)
    (pss_cons (ps_for PassesOwn.never rfl (pi_tup (pv 1)) (pg_name (i := 5) scMarks.nd rfl (.inr rfl))
      (pss_cons (ps_set (i := 6) scMarks.nd rfl (.inl rfl) (pe_callTy call_tupL rfl B.tuple boot_tuple (pa_cons (pe_lc (own := [("index", 9)]) (g := gName 9) (tt := tYes) rfl scMarks.nd (pi_tup (pv 2)) (blkOk_by (own := [("index", 9)]) (N := nMarks) (sc := defScope sMarks) (by decide +kernel)) (fun _ _ _ _ _ => pg_name (i := 9) scMarks.nd rfl (.inl rfl)) (fun _ _ _ _ _ => pts_nil)
          (fun _ _ _ _ _ => pe_ix (r := rIxT K) ix_tup (pe_ix (r := rIxT K) ix_tup (pe_ix (r := rIxT K) ix_tup (pv 0) (pv 9) (fun _ _ => rfl)) (pv 5) (fun _ _ => rfl)) (pv 5) (fun _ _ => rfl))) pa_nil)))
        (pss_one (ps_if (pt_cmp (pc_dnotin hu (pv 6) (pv 3)))
          (pss_cons (ps_dput hu (pv 3) (pv 6) (pe_tupN (pa_cons (pv 5) (pa_cons (pe_tupN pa_nil) pa_nil))) rfl)
            (pss_one (ps_expr (pe_bm PySem.F.plainAttrs_list PySem.F.slot_list_append PySem.F.type_list_append mt_appN (pv 4) (pa_cons (pv 6) pa_nil)))))
          pss_nil))))
    (pss_cons (ps_while PassesOwn.never (pt_cmpR (op_neD hu64) (pv 4) (pe_lstN pa_nil) (nomark _))
      (pss_cons (ps_set (i := 7) scMarks.nd rfl (.inl rfl) (pe_lstN pa_nil))
        (pss_cons (ps_for PassesOwn.never rfl (pi_list (pv 4)) (pg_name (i := 6) scMarks.nd rfl (.inl rfl))
          (pss_one (ps_for PassesOwn.never rfl (pi_tup (pv 1)) (pg_name (i := 5) scMarks.nd rfl (.inr rfl))
            (pss_cons (ps_set (i := 8) scMarks.nd rfl (.inl rfl) (pe_callTy call_tupL rfl B.tuple boot_tuple (pa_cons (pe_lc (own := [("index", 9), ("mark", 10)]) (g := gTup K 2 (gCons (gName 9) (gCons (gName 10) gNil))) (tt := tYes) rfl scMarks.nd (RZ.pi_zipA rfl B.zip (pa_cons (pv 2) (pa_cons (pv 6) pa_nil))) (blkOk_by (own := [("index", 9), ("mark", 10)]) (N := nMarks) (sc := defScope sMarks) (by decide +kernel))
              (fun _ _ _ _ _ => pg_tup rfl (pgs_cons (pg_name (i := 9) scMarks.nd rfl (.inl rfl)) (pgs_cons (pg_name (i := 10) scMarks.nd rfl (.inl rfl)) pgs_nil))) (fun _ _ _ _ _ => pts_nil)
              (fun _ _ _ _ _ => pe_ix (r := rIxT K) ix_tup (pe_ix (r := rIxT K) ix_tup (pe_ix (r := rIxT K) ix_tup (pv 0) (pv 9) (fun _ _ => rfl)) (pv 5) (fun _ _ => rfl)) (pv 10) (fun _ _ => rfl))) pa_nil)))
            (pss_one (ps_if (pt_cmp (pc_dnotin hu (pv 8) (pv 3)))
              (pss_cons (ps_dput hu (pv 3) (pv 8) (pe_tupN (pa_cons (pe_ix ix_tup (pe_dget hu (pv 3) (pv 6) (fun _ _ => rfl)) pe_int (fun _ _ => rfl)) (pa_cons (pe_op op_catTN (pe_ix ix_tup (pe_dget hu (pv 3) (pv 6) (fun _ _ => rfl)) pe_int (fun _ _ => rfl)) (pe_tupN (pa_cons (pv 5) pa_nil))) pa_nil))) rfl)
                (pss_one (ps_expr (pe_bm PySem.F.plainAttrs_list PySem.F.slot_list_append PySem.F.type_list_append mt_appN (pv 7) (pa_cons (pv 8) pa_nil)))))
              pss_nil))))))
        (pss_one (ps_set (i := 4) scMarks.nd rfl (.inl rfl) (pv 7))))))
    (pss_one (ps_ret (pv 3))))), ?_⟩
  refine fun d H1 hd k1 e1 => ⟨Nat.zero_le _, fun l H2 hl2 k2 e2 => ⟨_, _, rfl, ?_⟩⟩
  have hh1 := hh.st k1.tup
  have hl1 := k1.tup _ _ hl
  have hgr1 := k1.tup _ _ hgr
  have hdl : d ≠ l := fun z => by rw [z, hl2] at e1; cases e1
  have g5 : g.length ≤ 5 := Nat.le_trans hg.len G.h5
  have big := sizeLine_big
  refine ⟨_, rfl, la, rfl, ⟨_, SqT.of (k2.tup _ _ hl1)⟩, ?_⟩
  refine for_tup (K := K) (a := la) (xs := nvs lot) (fun i σ H' => ∃ D L a b, σ = [some (.ref ha), some (.ref la), some (.ref ga), some (.ref d), some (.ref l), a, b, none, none, none, none] ∧ Kp [l, d] H1 H' ∧ DA RM H' d D ∧ LT H' l L ∧ MA hs lot g i D L)
    ⟨[], [], none, none, rfl, k2.up, ⟨[], k2.dct e1 (by simp), .nil⟩, LT.nil e2, MA.start⟩ (fun i σ H' _ ⟨_, _, _, _, _, k, _⟩ => SqT.of (k.tup _ _ hl1)) ?_ ?_
  · rintro i x σ H3 hx ⟨D, L, a, b, rfl, k3, dd, ll, M⟩
    obtain ⟨p, hp, rfl⟩ := nvs_at hx
    have hpl := G.lt p (List.mem_of_getElem? hp)
    have hh3 := hh1.st k3.tup
    refine ⟨_, rfl, ga, rfl, ⟨_, SqT.of (k3.tup _ _ hgr1)⟩, fun C hC => lcN walk_tup [] (fun j l _ => l = nvs (marks hs (g.take j) p [])) hC (fun _ _ => rfl) (fun j l H _ k _ => SqT.of (k.tup _ _ (k3.tup _ _ hgr1))) ?_ ?_⟩
    · rintro j x l5 H4 H5 hj k4 e4 rfl ⟨rfl, hx⟩
      obtain ⟨n, hn, rfl⟩ := nvs_at hx
      obtain ⟨zs, c, xs, b5, ys, a1, a2, a3, a4, a5, a6⟩ := habs_at G (hh3.st k4.tup) (hg.lt (List.mem_of_getElem? hn)) hpl hpl
      refine ⟨rfl, _, rfl, _, rfl, ha, zs, _, _, rfl, rfl, SqT.of a1, a2, _, rfl, c, xs, _, _, rfl, rfl, SqT.of a3, a4, _, rfl, b5, ys, _, _, rfl, rfl, SqT.of a5, a6, PvL.add k4 e4 ?_ fun H5 k5 => (marks_step hn).symm⟩
      rw [nvs_length, marks_length, List.length_take]
      omega
    · rintro l4 H4 k4 e4 rfl
      refine ⟨C, _, rfl, e4, fun q5 H5 hq5 k5 e5 => ?_⟩
      rw [nvs_length, List.take_length] at e5
      have kk : Kp [l, d] H1 H5 := k3.trans (k4.up.trans k5.up)
      have dd5 : DA RM H5 d D := (dd.kp (xs := []) RM.stb k4 (by simp)).kp RM.stb k5 (by simp)
      have ll5 : LT H5 l L := (ll.kp k4 (by simp)).kp k5 (by simp)
      have hD5 : D.length ≤ 3125 := by
        have := few_M G hg M.nd M.isM
        rw [List.length_map] at this
        exact this
      obtain ⟨o, hget, hc⟩ := dd5.dr.get e5
      refine ⟨_, rfl, _, rfl, d, o, rfl, hget, _, rfl, ?_⟩
      rcases hc with ⟨rfl, hn⟩ | ⟨v, x, rfl, hx, _⟩
      · refine ⟨_, rfl, Nat.zero_le _, fun p1 H6 hp1 k6 e6 => ⟨by show 2 ≤ _; omega, fun p2 H7 hp2 k7 e7 => ?_⟩⟩
        have k67 := k6.trans k7
        obtain ⟨H8, hput, k8, dd8⟩ := (dd5.kp (xs := []) RM.stb k67 (by simp)).put (x := (p, ([] : List Nat))) (v := .ref p2) RM.stb (k67.tup _ _ e5) ⟨p2, p1, rfl, e7, k7.tup _ _ e6⟩ (by omega)
        refine ⟨_, rfl, _, rfl, d, H8, rfl, hput, ?_⟩
        have ll8 : LT H8 l L := (ll5.kp k67 (by simp)).kp k8 (by simp [hdl.symm])
        obtain ⟨xs, ex, hz, put⟩ := ll8.app (b := q5) (m := marks hs g p []) (k8.tup _ _ (k67.tup _ _ e5)) (by rw [M.la, List.length_map]; omega)
        refine ⟨_, rfl, .inl ⟨rfl, _, SqL.of ex⟩, _, rfl, l, xs, _, rfl, rfl, ex, hz, fun H9 k9 e9 => ?_⟩
        obtain ⟨_, ll9⟩ := put H9 k9 e9
        exact ⟨_, _, some (nv p), some (.ref q5), rfl, kk.trans (k67.up.trans ((k8.mono (by simp)).trans (k9.mono (by simp)))), dd8.kp RM.stb k9 (by simp [hdl]), ll9, M.new hp (lk_none hn)⟩
      · exact ⟨_, _, some (nv p), some (.ref q5), rfl, kk, dd5, ll5, M.old hp (List.mem_map.mpr ⟨_, lk_some hx, rfl⟩)⟩
  · rintro σ H3 ⟨D, L, a, b, rfl, k3, dd, ll, M⟩
    rw [nvs_length] at M
    refine while_n 4000 (fun n σ H' => ∃ D L l' a b c e, σ = [some (.ref ha), some (.ref la), some (.ref ga), some (.ref d), some (.ref l'), a, b, c, e, none, none] ∧ Kp [d] H1 H' ∧ DA RM H' d D ∧ LT H' l' L ∧ Lev hs lot g n D L)
      ⟨D, L, l, a, b, none, none, rfl, k3.drop hl2, dd, ll, M.lev⟩ ?_ (fun σ H Q Q' h q => mono_neNil K h q)
    rintro n σ H4 ⟨D0, L0, l', a, b, c, e, rfl, k4, dd4, ll4, LV⟩
    refine ⟨_, rfl, Nat.zero_le _, fun p5 H5 hp5 k5 e5 => ⟨ntD L0, .list [], dp_nt (ll4.kp k5 (by simp)), dp_lnil e5, ntD_shaped L0, lnil_shaped, _, rfl, ?_⟩⟩
    rw [ntD_nil]
    have hD0 : D0.length ≤ 3125 := by
      have := few_M G hg LV.nd LV.isM
      rw [List.length_map] at this
      exact this
    have kk5 : Kp [d] H1 H5 := k4.trans k5.up
    have dd5 : DA RM H5 d D0 := dd4.kp RM.stb k5 (by simp)
    have ll5 : LT H5 l' L0 := ll4.kp k5 (by simp)
    by_cases hL : L0 = []
    · rw [decide_eq_true hL]
      subst hL
      refine ⟨_, rfl, ?_⟩
      exact q d D0 H5 hd ((k1.up.trans kk5).drop hd) dd5 LV.fin
    · rw [decide_eq_false hL]
      refine ⟨by have := LV.cnt hL; omega, Nat.zero_le _, fun l2 H6 hl26 k6 e6 => ?_⟩
      obtain ⟨as, eas, pas⟩ := ll5.kp k6 (by simp)
      have ne1 : l' ≠ l2 := fun z => by
        rw [← z] at hl26
        obtain ⟨_, q', _⟩ := ll5
        rw [q'] at hl26
        cases hl26
      have ne2 : l' ≠ d := fun z => by
        obtain ⟨_, q1, _⟩ := ll5
        obtain ⟨_, q2, _⟩ := dd5
        rw [z, q2] at q1
        cases q1
      have ne3 : d ≠ l2 := fun z => by
        rw [← z] at hl26
        obtain ⟨_, q2, _⟩ := dd5
        rw [q2] at hl26
        cases hl26
      refine ⟨_, rfl, l', rfl, ⟨_, SqL.of eas⟩, ?_⟩
      have kk6 : Kp [d] H1 H6 := kk5.trans k6.up
      refine for_list (K := K) (a := l') (xs := as.map V.ref) (fun j σ H' => ∃ D X a b e, σ = [some (.ref ha), some (.ref la), some (.ref ga), some (.ref d), some (.ref l'), a, b, some (.ref l2), e, none, none] ∧ Kp [l2, d] H6 H' ∧ DA RM H' d D ∧ LT H' l2 X ∧ In hs lot g n D0 L0 j 0 D X)
        ⟨D0, [], a, b, e, rfl, Kp.refl _, dd5.kp RM.stb k6 (by simp), LT.nil e6, In.start LV⟩ (fun j σ H' _ ⟨_, _, _, _, _, _, k, _⟩ => SqL.of (k.lst eas (by simp [ne1, ne2]))) ?_ ?_
      · rintro j x σ H7 hx ⟨D, X, a, b, e, rfl, k7, dd7, ll7, I⟩
        obtain ⟨qm, m, rfl, hm, hqm⟩ := pas.at hx
        refine ⟨_, rfl, la, rfl, ⟨_, SqT.of (k7.tup _ _ (kk6.tup _ _ hl1))⟩, ?_⟩
        have hmL : m ∈ L0 := List.mem_of_getElem? hm
        have isM : IsM hs lot g m := by
          obtain ⟨e', he', em, _⟩ := LV.lay m hmL
          exact LV.isM m (List.mem_map.mpr ⟨e', he', em⟩)
        have hml : m.length = g.length := by
          obtain ⟨p, w, _, _, em⟩ := isM
          rw [em, marks_length]
        have hmlt : ∀ x ∈ m, x < pl := by
          obtain ⟨p, w, h1, h2, em⟩ := isM
          rw [em]
          exact marks_lt G hg h1 h2
        refine for_tup (K := K) (a := la) (xs := nvs lot) (fun i σ H' => ∃ D X a e, σ = [some (.ref ha), some (.ref la), some (.ref ga), some (.ref d), some (.ref l'), a, some (.ref qm), some (.ref l2), e, none, none] ∧ Kp [l2, d] H6 H' ∧ DA RM H' d D ∧ LT H' l2 X ∧ In hs lot g n D0 L0 j i D X)
          ⟨D, X, a, e, rfl, k7, dd7, ll7, I⟩ (fun i σ H' _ ⟨_, _, _, _, _, k, _⟩ => SqT.of (k.tup _ _ (kk6.tup _ _ hl1))) ?_ ?_
        · rintro i x σ H8 hx ⟨D, X, a, e, rfl, k8, dd8, ll8, I⟩
          obtain ⟨p, hp, rfl⟩ := nvs_at hx
          have hpl := G.lt p (List.mem_of_getElem? hp)
          have hh8 := hh1.st (kk6.tup.trans k8.tup)
          have hgr8 := k8.tup _ _ (kk6.tup _ _ hgr1)
          have hqm8 := k8.tup _ _ hqm
          refine ⟨_, rfl, _, rfl, ga, qm, nvs g, nvs m, rfl, .inr ⟨SqT.of hgr8, SqT.of hqm8, fun C hC => lcN (walk_zipT (n := g.length) (by rw [nvs_length, nvs_length, hml]; omega)) [] (fun j l _ => l = nvs (mv hs (g.take j) p (m.take j))) hC (fun _ _ => rfl) (fun j l H _ k _ => ⟨SqT.of (k.tup _ _ hgr8), SqT.of (k.tup _ _ hqm8)⟩) ?_ ?_⟩⟩
          · rintro j2 v l5 H9 H10 hj k9 e9 rfl ⟨T, x, y, rfl, hT, rfl, hx, hy⟩
            obtain ⟨n9, hn, rfl⟩ := nvs_at hx
            obtain ⟨y9, hy9, rfl⟩ := nvs_at hy
            have kT : Kp [C] H9 (upd H9 T (.tup [nv n9, nv y9])) := Kp.new hT _
            obtain ⟨zs, c, xs, b5, ys, a1, a2, a3, a4, a5, a6⟩ := habs_at G ((hh8.st k9.tup).st kT.tup) (hg.lt (List.mem_of_getElem? hn)) hpl (hmlt y9 (List.mem_of_getElem? hy9))
            refine ⟨T, _, rfl, SqT.of upd_same, rfl, _, _, rfl, _, _, rfl, rfl, rfl, _, rfl, _, rfl, ha, zs, _, _, rfl, rfl, SqT.of a1, a2, _, rfl, c, xs, _, _, rfl, rfl, SqT.of a3, a4, _, rfl, b5, ys, _, _, rfl, rfl, SqT.of a5, a6, PvL.add (k9.trans kT) (by rw [upd_ne (ne_of_none e9 hT)]; exact e9) ?_ fun H5 k5 => ?_⟩
            · rw [nvs_length]
              have := mv_len hs (g.take j2) p (m.take j2)
              rw [List.length_take] at this
              omega
            · rw [mv_snoc hs hn hy9, nvs_app]
              rfl
          · rintro l9 H9 k9 e9 rfl
            refine ⟨C, _, rfl, e9, fun q10 H10 hq10 k10 e10 => ?_⟩
            rw [List.take_length, ← hml, List.take_length] at e10
            have k910 : Kp [] H8 H10 := k9.trans k10
            have kk10 : Kp [l2, d] H6 H10 := k8.trans k910.up
            have dd10 : DA RM H10 d D := dd8.kp (xs := []) RM.stb k910 (by simp)
            have ll10 : LT H10 l2 X := ll8.kp k910 (by simp)
            have hD10 : D.length ≤ 3125 := by
              have := few_M G hg I.nd (I.isM LV)
              rw [List.length_map] at this
              exact this
            obtain ⟨o, hget, hc⟩ := dd10.dr.get e10
            refine ⟨_, rfl, _, rfl, d, o, rfl, hget, _, rfl, ?_⟩
            rcases hc with ⟨rfl, hn⟩ | ⟨v, x, rfl, hx, _⟩
            · obtain ⟨p0, w0, hlk, hp0, hw0, em, hwl⟩ := I.at LV hmL
              obtain ⟨o2, hget2, hc2⟩ := dd10.dr.get (k910.tup _ _ hqm8)
              rcases hc2 with ⟨_, hno⟩ | ⟨v2, x2, rfl, hx2, va, wb, rfl, hva, hwb⟩
              · rw [hlk] at hno
                cases hno
              rw [hlk] at hx2
              cases hx2
              have hnD : n ≤ 3125 := by have := LV.cnt hL; omega
              refine ⟨_, rfl, _, rfl, d, _, rfl, hget2, va, _, 0, _, rfl, rfl, SqT.of hva, rfl, _, rfl, _, rfl, d, _, rfl, hget2, va, _, 1, _, rfl, rfl, SqT.of hva, rfl, _, rfl, by show 1 ≤ _; omega, fun p1 H11 hp1 k11 e11 => ?_⟩
              refine ⟨wb, p1, _, _, rfl, rfl, k11.tup _ _ hwb, e11, ?_, fun p2 H12 k12 e12 => ⟨by show 2 ≤ _; omega, fun p3 H13 hp3 k13 e13 => ?_⟩⟩
              · rw [nvs_length, hwl]
                show n + 1 ≤ _
                omega
              have k1113 := (k11.trans k12).trans k13
              have e12' : TN H13 p2 (w0 ++ [p]) := by
                have z := k13.tup _ _ e12
                rw [show nvs w0 ++ [nv p] = nvs (w0 ++ [p]) from (nvs_app w0 [p]).symm] at z
                exact z
              obtain ⟨H14, hput, k14, dd14⟩ := (dd10.kp (xs := []) RM.stb k1113 (by simp)).put (x := (p0, w0 ++ [p])) (v := .ref p3) RM.stb (k1113.tup _ _ e10) ⟨p3, p2, rfl, e13, e12'⟩ (by omega)
              refine ⟨_, rfl, _, rfl, d, H14, rfl, hput, ?_⟩
              have ll14 : LT H14 l2 X := (ll10.kp k1113 (by simp)).kp k14 (by simp [ne3.symm])
              obtain ⟨xs, ex, hz, put⟩ := ll14.app (b := q10) (m := mv hs g p m) (k14.tup _ _ (k1113.tup _ _ e10)) (by have := I.length; omega)
              refine ⟨_, rfl, .inl ⟨rfl, _, SqL.of ex⟩, _, rfl, l2, xs, _, rfl, rfl, ex, hz, fun H15 k15 e15 => ?_⟩
              obtain ⟨_, ll15⟩ := put H15 k15 e15
              exact ⟨_, _, some (nv p), some (.ref q10), rfl, kk10.trans (k1113.up.trans ((k14.mono (by simp)).trans (k15.mono (by simp)))), dd14.kp RM.stb k15 (by simp [ne3]), ll15, I.new hm hp hp0 hw0 em hwl (lk_none hn)⟩
            · exact ⟨_, _, some (nv p), some (.ref q10), rfl, kk10, dd10, ll10, I.old hm hp (List.mem_map.mpr ⟨_, lk_some hx, rfl⟩)⟩
        · rintro σ H8 ⟨D, X, a, e, rfl, k8, dd8, ll8, I⟩
          rw [nvs_length] at I
          exact ⟨D, X, a, some (.ref qm), e, rfl, k8, dd8, ll8, I.row hm⟩
      · rintro σ H7 ⟨D, X, a, b, e, rfl, k7, dd7, ll7, I⟩
        rw [List.length_map, pas.length] at I
        exact ⟨_, rfl, D, X, l2, a, b, some (.ref l2), e, rfl, kk5.trans (((k6.up (xs := [l2, d])).trans k7).drop hl26), dd7, ll7, I.done LV hL⟩
end
end Rs


set_option Elab.async false
set_option linter.all false
set_option maxRecDepth 100000
set_option maxHeartbeats 4000000
namespace Rs
open PySem PySem.Spec PyProof.Rows L2
/-- the def x may be called and keeps its promise -/
def Cl (P : Program) (w : World) (K : PySem.W.Frag) (mg : Str → Option Value) (base : Heap) (CX : CXT) (k : Nat) (x : Str) (ps : List Str) (sp : Sp) : Prop :=
  ∃ f fd, FnOk P w K mg base CX k f fd ps sp ∧ mg x = some (.ref f) ∧ PySem.W.keepIn K (.ref f) = true ∧ Binds K fd ps []
/-! ### partings -/
abbrev sPart : Stmt := topS 20
def RT (H : Hp) (v : V) (x : Ts) : Prop := ∃ a, v = .ref a ∧ TestAt H a x
theorem RT.stb : Stb RT := fun H H' v x k ⟨a, e, h⟩ => ⟨a, e, h.st k⟩
def spPart : Sp := fun vs H Q _ => ∃ ha la ga hs pl lot g, vs = [.ref ha, .ref la, .ref ga] ∧ Good hs pl lot ∧ Grp hs g ∧ HabsAt H ha hs ∧ TN H la lot ∧ TN H ga g ∧
  ∀ d F H', H d = none → Kp [] H H' → DA RT H' d F → PS hs lot g F → Q (.ref d) H'
abbrev nPart : List Str := ["habits", "lot", "group", "found", "marks_to", "marks", "place", "word", "read", "marked", "index", "mark"]
theorem scPart : FnScope nPart ["habits", "lot", "group"] (defScope sPart) := ⟨rfl, rfl, rfl, by decide +kernel, rfl, by decide +kernel, by decide +kernel⟩
theorem part_len : ∀ (g m : List Nat) (r : Nat), (part g m r).length ≤ g.length
  | [], _, _ => Nat.zero_le _
  | _ :: _, [], _ => Nat.zero_le _
  | i :: g, x :: m, r => by
    show (if x = r then i :: part g m r else part g m r).length ≤ _
    have := part_len g m r
    split
    · exact Nat.succ_le_succ this
    · exact Nat.le_succ_of_le this
section
variable {P : Program} {w : World} {K : PySem.W.Frag} {mg : Str → Option Value} {base : Heap} {f : Addr} {fd : FuncData}
theorem ok_part (F : Fun K "partings" "partings" sPart f fd) (B : Bi mg) (cM : Cl P w K mg base CX0 1 "marks_of" ["habits", "lot", "group"] spMarks) : FnOk P w K mg base CX0 2 f fd ["habits", "lot", "group"] spPart := by
  obtain ⟨fM, fdM, gM, mgM, kpM, bM⟩ := cM
  refine F.ok scPart (fun vs H Q E h => ?_) (fun cdv A outer s H vs Q E hr h => ?_)
  · obtain ⟨ha, la, ga, hs, pl, lot, g, rfl, _⟩ := h
    rfl
  obtain ⟨ha, la, ga, hs, pl, lot, g, rfl, G, hg, hh, hl, hgr, q⟩ := h
  have hu := hu_of hr
  refine ⟨_, pss_cons (ps_set (i := 3) scPart.nd rfl (.inl rfl) pe_dctN)
    (pss_cons (ps_set (i := 4) scPart.nd rfl (.inl rfl) (pe_call gM hr rfl mgM kpM bM .nil pass0 (pa_cons (pv 0) (pa_cons (pv 1) (pa_cons (pv 2) pa_nil)))))
    (pss_cons (ps_for PassesOwn.never rfl (pi_keysMT (pv 4)) (pg_name (i := 5) scPart.nd rfl (.inl rfl))
      (pss_cons (ps_asg (pe_dget hu (pv 4) (pv 5) (fun _ _ => rfl)) (pg_tup rfl (pgs_cons (pg_name (i := 6) scPart.nd rfl (.inl rfl)) (pgs_cons (pg_name (i := 7) scPart.nd rfl (.inl rfl)) pgs_nil))))
      (pss_one (ps_for PassesOwn.never rfl (pi_tup (pv 1)) (pg_name (i := 8) scPart.nd rfl (.inr rfl))
        (pss_cons (ps_set (i := 9) scPart.nd rfl (.inl rfl) (pe_callTy call_tupL rfl B.tuple boot_tuple (pa_cons (pe_lc (own := [("index", 10), ("mark", 11)]) (g := gTup K 2 (gCons (gName 10) (gCons (gName 11) gNil))) (tt := tTest (tOp rEq (tVar 11) (tVar 8))) rfl scPart.nd (RZ.pi_zipA rfl B.zip (pa_cons (pv 2) (pa_cons (pv 5) pa_nil))) (blkOk_by (own := [("index", 10), ("mark", 11)]) (N := nPart) (sc := defScope sPart) (by decide +kernel))
              (fun _ _ _ _ _ => pg_tup rfl (pgs_cons (pg_name (i := 10) scPart.nd rfl (.inl rfl)) (pgs_cons (pg_name (i := 11) scPart.nd rfl (.inl rfl)) pgs_nil))) (fun _ _ _ _ _ => pts_one (pt_cmpR op_eq (pv 11) (pv 8) (nomark _)))
              (fun _ _ _ _ _ => pv 10)) pa_nil)))
        (pss_one (ps_if (PW.pt (pw_and (pt_chain op_lt op_lt pe_int (pe_callB call_len_seq rfl B.len boot_len (pa_cons (pv 9) pa_nil)) (pe_callB call_len_seq rfl B.len boot_len (pa_cons (pv 2) pa_nil)))
            (pw_and1 (PW.pt (pw_or (pt_cmp (pc_dnotin hu (pv 9) (pv 3))) (pw_or1 (pt_cmpR op_lt (pe_callB call_len_seq rfl B.len boot_len (pa_cons (pv 7) pa_nil)) (pe_callB call_len_seq rfl B.len boot_len (pa_cons (pe_ix ix_tup (pe_dget hu (pv 3) (pv 9) (fun _ _ => rfl)) pe_int (fun _ _ => rfl)) pa_nil)) (nomark _))))))))
          (pss_one (ps_dput hu (pv 3) (pv 9) (pe_tupN (pa_cons (pv 6) (pa_cons (pv 7) (pa_cons (pv 8) pa_nil)))) rfl))
          pss_nil)))))))
    (pss_one (ps_ret (pv 3))))), ?_⟩
  refine fun d H1 hd k1 e1 => ⟨_, rfl, _, rfl, _, rfl, ha, la, ga, hs, pl, lot, g, rfl, G, hg, hh.st k1.tup, k1.tup _ _ hl, k1.tup _ _ hgr, fun m D H2 hm k2 ⟨kvs, em, dp⟩ MM => ?_⟩
  have g5 : g.length ≤ 5 := Nat.le_trans hg.len G.h5
  have big := sizeLine_big
  refine ⟨_, rfl, m, kvs, rfl, em, fun od => ?_⟩
  have k3 : Kp [m] H2 (upd H2 m (.frz od (.dT kvs))) := Kp.lock em (by simp)
  have em3 : upd H2 m (.frz od (.dT kvs)) m = some (.frz od (.dT kvs)) := upd_same
  generalize upd H2 m (.frz od (.dT kvs)) = H3 at k3 em3
  have ned : d ≠ m := fun z => by rw [← z, e1] at hm; cases hm
  have kk3 : Kp [d] H1 H3 := ((k2.up.trans k3 : Kp [m] H1 H3).drop hm).up
  have hh3 := (hh.st k1.tup).st kk3.tup
  have hl3 := kk3.tup _ _ (k1.tup _ _ hl)
  have hgr3 := kk3.tup _ _ (k1.tup _ _ hgr)
  have dd3 : DA RT H3 d [] := ⟨[], k3.dct (k2.dct e1 (by simp)) (by simp [ned]), .nil⟩
  refine for_it walk_keysT (fun j σ H' => ∃ F a b c e x, σ = [some (.ref ha), some (.ref la), some (.ref ga), some (.ref d), some (.ref m), a, b, c, e, x, none, none] ∧ Kp [d] H3 H' ∧ DA RT H' d F ∧ Pr hs lot g D j 0 F)
    ⟨[], none, none, none, none, none, rfl, Kp.refl _, dd3, Pr.start⟩ (fun j σ H' _ ⟨_, _, _, _, _, _, _, k, _⟩ => k.frz em3 (by simp [ned.symm])) ?_ ?_
  · rintro j x σ H4 H5 hj ⟨F, a, b, c, e, x', rfl, k4, dd4, I⟩ ⟨rfl, k, v, qm, hk, rfl, hqm⟩
    obtain ⟨mm, xx, hD, rfl, _⟩ := dp.at hk
    rw [ks_kV] at hqm
    have dr5 : DR RM H5 m D := ⟨kvs, .inr ⟨od, k4.frz em3 (by simp [ned.symm])⟩, dp.st RM.stb (k3.tup.trans k4.tup)⟩
    obtain ⟨o, hget, hc⟩ := dr5.get hqm
    have hlk : lk D mm = some xx := lk_mem MM.nd (List.mem_of_getElem? hD)
    rcases hc with ⟨_, hno⟩ | ⟨v2, x2, rfl, hx2, va, wb, rfl, hva, hwb⟩
    · rw [hlk] at hno
      cases hno
    rw [hlk] at hx2
    cases hx2
    obtain ⟨ok1, ok2, emm⟩ := MM.en _ (List.mem_of_getElem? hD)
    have ok1 : xx.1 ∈ lot := ok1
    have ok2 : ∀ q ∈ xx.2, q ∈ lot := ok2
    have emm : mm = marks hs g xx.1 xx.2 := emm
    have hml : mm.length = g.length := by rw [emm, marks_length]
    refine ⟨_, rfl, _, rfl, m, _, rfl, hget, va, _, rfl, SqT.of hva, rfl, _, _, rfl, _, _, rfl, rfl, ?_⟩
    refine ⟨_, rfl, la, rfl, ⟨_, SqT.of (k4.tup _ _ hl3)⟩, ?_⟩
    refine for_tup (K := K) (a := la) (xs := nvs lot) (fun i σ H' => ∃ F e x, σ = [some (.ref ha), some (.ref la), some (.ref ga), some (.ref d), some (.ref m), some (.ref qm), some (nv xx.1), some (.ref wb), e, x, none, none] ∧ Kp [d] H5 H' ∧ DA RT H' d F ∧ Pr hs lot g D j i F)
      ⟨F, e, x', rfl, Kp.refl _, dd4, I⟩ (fun i σ H' _ ⟨_, _, _, _, k, _⟩ => SqT.of (k.tup _ _ (k4.tup _ _ hl3))) ?_ ?_
    · rintro i x σ H6 hx ⟨F, e, x', rfl, k6, dd6, I⟩
      obtain ⟨r, hr', rfl⟩ := nvs_at hx
      have hrl : r ∈ lot := List.mem_of_getElem? hr'
      have hgr6 := k6.tup _ _ (k4.tup _ _ hgr3)
      have hqm6 := k6.tup _ _ hqm
      have hwb6 := k6.tup _ _ hwb
      refine ⟨_, rfl, _, rfl, ga, qm, nvs g, nvs mm, rfl, .inr ⟨SqT.of hgr6, SqT.of hqm6, fun C hC => lcN (walk_zipT (n := g.length) (by rw [nvs_length, nvs_length, hml]; omega)) [] (fun j l _ => l = nvs (part (g.take j) (mm.take j) r)) hC (fun _ _ => rfl) (fun j l H _ k _ => ⟨SqT.of (k.tup _ _ hgr6), SqT.of (k.tup _ _ hqm6)⟩) ?_ ?_⟩⟩
      · rintro j2 v l5 H9 H10 hj k9 e9 rfl ⟨T, x, y, rfl, hT, rfl, hx, hy⟩
        obtain ⟨n9, hn, rfl⟩ := nvs_at hx
        obtain ⟨y9, hy9, rfl⟩ := nvs_at hy
        have kT : Kp [C] H9 (upd H9 T (.tup [nv n9, nv y9])) := Kp.new hT _
        have e9' : upd H9 T (.tup [nv n9, nv y9]) C = some (.lst (nvs (part (g.take j2) (mm.take j2) r))) := by rw [upd_ne (ne_of_none e9 hT)]; exact e9
        have ps := part_snoc (r := r) hn hy9
        refine ⟨T, _, rfl, SqT.of upd_same, rfl, _, _, rfl, _, _, rfl, rfl, rfl, _, rfl, _, rfl, rfl, _, rfl, ite2 (fun z => ?_) (fun z => ?_)⟩
        · have z' : y9 = r := nv_inj (of_decide_eq_true z)
          refine ⟨_, rfl, PvL.add (k9.trans kT) e9' ?_ fun H5 k5 => ?_⟩
          · rw [nvs_length]
            have := part_len (g.take j2) (mm.take j2) r
            rw [List.length_take] at this
            omega
          · rw [ps, if_pos z', nvs_app]
            rfl
        · have z' : ¬ y9 = r := fun q => z (decide_eq_true (by rw [q]))
          refine ⟨_, k9.trans kT, e9', ?_⟩
          show nvs _ = nvs (part (g.take (j2 + 1)) (mm.take (j2 + 1)) r)
          rw [ps, if_neg z', List.append_nil]
      · rintro l9 H9 k9 e9 rfl
        refine ⟨C, _, rfl, e9, fun q10 H10 hq10 k10 e10 => ?_⟩
        have kk10 : Kp [] H6 H10 := k9.trans k10
        have es : part g mm r = yes hs g ⟨xx.1, xx.2, r⟩ := by rw [emm]; exact part_marks hs ⟨xx.1, xx.2, r⟩ g
        rw [List.take_length, ← hml, List.take_length, es] at e10
        have dd10 : DA RT H10 d F := dd6.kp (xs := []) RT.stb kk10 (by simp)
        have k610 : Kp [d] H5 H10 := k6.trans kk10.up
        have hgr10 := kk10.tup _ _ hgr6
        have hwb10 := kk10.tup _ _ hwb6
        have hF : F.length ≤ 32 := fen_few hg G.h5 I.nd fun f hf => (I.en f hf).2
        obtain ⟨o, hget, hc⟩ := dd10.dr.get e10
        refine ⟨_, rfl, q10, _, rfl, .inr (SqT.of e10), _, _, rfl, rfl, _, rfl, ite2 (fun z1 => ?_) (fun z1 => ?_)⟩
        · have z1 := of_decide_eq_true z1
          rw [nvs_length] at z1
          refine ⟨_, rfl, ga, _, rfl, .inr (SqT.of hgr10), _, _, rfl, rfl, _, rfl, ite2 (fun z2 => ?_) (fun z2 => ?_)⟩
          · have z2 := of_decide_eq_true z2
            rw [nvs_length, nvs_length] at z2
            have hp : Prp hs lot g ⟨xx.1, xx.2, r⟩ := prp_of ⟨ok1, ok2, hrl⟩ (by omega) (by omega)
            have fin : ∀ σ4, σ4 = [some (.ref ha), some (.ref la), some (.ref ga), some (.ref d), some (.ref m), some (.ref qm), some (nv xx.1), some (.ref wb), some (nv r), some (.ref q10), none, none] →
                (yes hs g ⟨xx.1, xx.2, r⟩ ∉ keys F ∨ ∃ o, lk F (yes hs g ⟨xx.1, xx.2, r⟩) = some o ∧ xx.2.length < o.w.length) →
                tTupN (tCons (tVar 6) (tCons (tVar 7) (tCons (tVar 8) tNil))) σ4 H10 fun v H1 => tVar 3 σ4 H1 fun x H2 => tVar 9 σ4 H2 fun y H3 => ∃ a H4, x = .ref a ∧ DPut H3 a y v H4 ∧
                  ∃ F e x, σ4 = [some (.ref ha), some (.ref la), some (.ref ga), some (.ref d), some (.ref m), some (.ref qm), some (nv xx.1), some (.ref wb), e, x, none, none] ∧ Kp [d] H5 H4 ∧ DA RT H4 d F ∧ Pr hs lot g D j (i + 1) F := by
              rintro _ rfl ho
              refine ⟨_, rfl, _, rfl, _, rfl, by show 3 ≤ _; omega, fun p1 H11 hp1 k11 e11 => ?_⟩
              obtain ⟨H12, hput, k12, dd12⟩ := (dd10.kp (xs := []) RT.stb k11 (by simp)).put (x := (⟨xx.1, xx.2, r⟩ : Ts)) (v := .ref p1) RT.stb (k11.tup _ _ e10) ⟨p1, rfl, wb, e11, k11.tup _ _ hwb10⟩ (by omega)
              exact ⟨_, rfl, _, rfl, d, H12, rfl, hput, _, _, _, rfl, k610.trans (k11.up.trans k12), dd12, I.put hD hr' hp ho⟩
            refine ⟨_, rfl, _, rfl, d, o, rfl, hget, _, rfl, ?_⟩
            rcases hc with ⟨rfl, hn⟩ | ⟨v, x, rfl, hx, ta, rfl, wa, hta, hwa⟩
            · exact fin _ rfl (.inl (lk_none hn))
            · refine ⟨_, rfl, wb, _, rfl, .inr (SqT.of hwb10), _, rfl, _, rfl, d, _, rfl, hget, ta, _, 1, _, rfl, rfl, SqT.of hta, rfl, wa, _, rfl, .inr (SqT.of hwa), _, _, rfl, rfl, _, rfl, ite2 (fun z3 => ?_) (fun z3 => ?_)⟩
              · have z3 := of_decide_eq_true z3
                rw [nvs_length, nvs_length] at z3
                exact fin _ rfl (.inr ⟨x, hx, by omega⟩)
              · have z3 : ¬ _ := fun q => z3 (decide_eq_true q)
                rw [nvs_length, nvs_length] at z3
                exact ⟨_, _, _, rfl, k610, dd10, I.skip hD hr' fun _ => ⟨x, hx, by show _ ≤ xx.2.length; omega⟩⟩
          · have z2 : ¬ _ := fun q => z2 (decide_eq_true q)
            rw [nvs_length, nvs_length] at z2
            exact ⟨_, _, _, rfl, k610, dd10, I.skip hD hr' fun (hp : Prp hs lot g ⟨xx.1, xx.2, r⟩) => absurd hp.yes_lt (by omega)⟩
        · have z1 : ¬ _ := fun q => z1 (decide_eq_true q)
          rw [nvs_length] at z1
          exact ⟨false, rfl, _, _, _, rfl, k610, dd10, I.skip hD hr' fun (hp : Prp hs lot g ⟨xx.1, xx.2, r⟩) => absurd (len_pos hp.2.1) (by omega)⟩
    · rintro σ H6 ⟨F, e, x', rfl, k6, dd6, I⟩
      rw [nvs_length] at I
      exact ⟨F, _, _, _, e, x', rfl, k4.trans k6, dd6, I.row hD⟩
  · rintro σ H4 ⟨F, a, b, c, e, x', rfl, k4, dd4, I⟩
    rw [dp.length] at I
    exact ⟨_, rfl, q d F H4 hd ((k1.up.trans (kk3.trans k4)).drop hd) dd4 (I.fin MM)⟩
end
end Rs


set_option Elab.async false
set_option linter.all false
set_option maxRecDepth 100000
set_option maxHeartbeats 4000000
namespace Rs
open PySem PySem.Spec PyProof.Rows L2
abbrev sNum : Stmt := topS 9
theorem keeps_of {s s1 : Shared} {L : Addr} {m : Str → Option Value} (x : InCall s L m s1) (tk : Nat) : Keeps s { s1 with toks := tk } := by
  obtain ⟨h, t, e⟩ := x.same
  refine ⟨s1.heap, tk, ?_, x.keep⟩
  rw [e]
section
variable {P : Program} {w : World} {K : PySem.W.Frag} {mg : Str → Option Value} {base : Heap} {f : Addr} {fd : FuncData}
/-- the call of is_number at a number within its bounds, with all that was there kept -/
theorem num_run (M : Mod K mg base) (F : Fun K "is_number" "is_number" sNum f fd) (bi : Binds K fd ["value", "low", "high"] []) (B : Bi mg) {A : Around} {s : Shared} {R : Result → Shared → Prop} (hA : A.depth < recursionLimit)
    (hb : ∀ b o, base.get? b = some o → s.heap.get? b = some o) (v lo hi : Int) (t1 t2 t3 : Tok) (h1 : lo ≤ v) (h2 : v ≤ hi) (h : ∀ s', Keeps s s' → R (.ok (.ret (.bool true))) s') :
    codeAny (model P w) A (.call (.ref f) ⟨[.int v t1, .int lo t2, .int hi t3], []⟩) R s := by
  obtain ⟨oc, od, kV, doc, pm, an, cdv, ct, osl, rfl, lk, hcd⟩ := F.ex
  have KX : K.In s.heap := M.kin.keeps hb
  have lim : s.heap.NoLimit := M.nolimit.keeps hb
  refine Att.call_fn KX lim lk hcd hA (bi s [.int v t1, .int lo t2, .int hi t3] KX rfl) (by rfl) (fun s1 x => ?_) rfl rfl rfl
  have hb1 : ∀ b o, base.get? b = some o → s1.heap.get? b = some o := fun b o e => x.toInCall.keep b o (hb b o e)
  have KX1 : K.In s1.heap := M.kin.keeps hb1
  obtain ⟨mb, m1, m2⟩ := M.blt
  have gl := M.glob.keeps hb1
  have bl := m1.keeps hb1
  have fin : ∀ tk, R (.ok (.ret (.bool true))) { s1 with toks := tk } := fun tk => h _ (keeps_of x.toInCall tk)
  refine wpAny_execs_cons (wpAny_Return_some ?_)
  have nV : ∀ {A' : Around} {pos : Pos} {Q E : Value → Shared → Prop} (tk : Nat), Q (.int v t1) { s1 with toks := tk } → wpAny (model P w) A' (eval (.Name "value" pos) (envOfC "is_number" (defScope sNum) s.heap.objs.size f cdv)) Q E { s1 with toks := tk } :=
    fun tk h => wpAny_Name (wpAny_loadName_local rfl rfl x.toInCall.ns rfl h) rfl
  have nL : ∀ {A' : Around} {pos : Pos} {Q E : Value → Shared → Prop} (tk : Nat), Q (.int lo t2) { s1 with toks := tk } → wpAny (model P w) A' (eval (.Name "low" pos) (envOfC "is_number" (defScope sNum) s.heap.objs.size f cdv)) Q E { s1 with toks := tk } :=
    fun tk h => wpAny_Name (wpAny_loadName_local rfl rfl x.toInCall.ns rfl h) rfl
  have nH : ∀ {A' : Around} {pos : Pos} {Q E : Value → Shared → Prop} (tk : Nat), Q (.int hi t3) { s1 with toks := tk } → wpAny (model P w) A' (eval (.Name "high" pos) (envOfC "is_number" (defScope sNum) s.heap.objs.size f cdv)) Q E { s1 with toks := tk } :=
    fun tk h => wpAny_Name (wpAny_loadName_local rfl rfl x.toInCall.ns rfl h) rfl
  have isi : ∀ {A' : Around} {p1 p2 p3 pos : Pos} {T : String} {b : Bool} {Q E : Value → Shared → Prop} (tk : Nat) (hm : mg T = none) (hB : bootBuiltins T = some (.type T)) (hn : (T : Str) ≠ "__name__") (hd : ((T : Str) == ("__debug__" : Str)) = false) (hk : (envOfC "is_number" (defScope sNum) s.heap.objs.size f cdv).kindOf (T : Str) = some .globalImplicit)
      (e : PySem.W.kitOne K (.type "int") (.type T) = some b), (∀ tk', Q (.bool b) { s1 with toks := tk' }) →
      wpAny (model P w) A' (eval (.Call (.Name "isinstance" p1) [.Name "value" p2, .Name T p3] [] pos) (envOfC "is_number" (defScope sNum) s.heap.objs.size f cdv)) Q E { s1 with toks := tk } := by
    intro A' p1 p2 p3 pos T b Q E tk hm hB hn hd hk e h
    refine wpAny_Call_Name_kw (Calls.Name_function_global rfl rfl (Calls.loadGlobal_builtin gl B.isi bl ((m2 _ (by decide)).trans boot_isinstance) (PyProof.Rows.callWith_builtin1 (args_cons (nV tk (args_cons (Calls.Name_function_global rfl hk (Calls.loadGlobal_builtin gl hm bl ((m2 _ hn).trans hB) (args_nil ?_)) hd) rfl)) rfl) rfl rfl)))
    exact PySem.W.kia_one PySem.W.kitx_int KX1 True.intro e (fun z => nomatch z) h
  refine BoolOp_and (isi (b := true) s1.toks B.int (by decide +kernel) (by decide) (by decide) rfl (kit_ty (by decide +kernel)) fun tk => wpAny_truthy_bool (ite_tt ?_))
  refine BoolOp_and (UnaryOp_ (isi (b := false) tk B.bool (by decide +kernel) (by decide) (by decide) rfl (kit_ty (by decide +kernel)) fun tk => PyProof.Rows.not_of (wpAny_truthy_bool (wpAny_truthy_bool (ite_tt ?_)))))
  refine BoolOp_one (Compare_chain (nL tk (chain_link (nV tk (le_int (wpAny_truthy_bool ?_))))))
  rw [decide_eq_true h1]
  refine ite_tt (chain_last (nH tk (le_int ?_)))
  rw [decide_eq_true h2]
  exact fin tk
end
end Rs


set_option Elab.async false
set_option linter.all false
set_option maxRecDepth 100000
set_option maxHeartbeats 4000000
namespace Rs
open PySem PySem.Spec PyProof.Rows L2
theorem Keeps.ofTok {s s' : Shared} {tk : Nat} (k : Keeps { s with toks := tk } s') : Keeps s s' := by
  obtain ⟨h, t, e, q⟩ := k
  exact ⟨h, t, e, q⟩
section
variable {X : Cx} {pins : List (Addr × Obj)} {σ : L2.St} {H1 : Hp} {s1 : Shared} {P : Addr} {f : Addr} {fd : FuncData} {k : Nat}
/-- base stays where all but P stays -/
theorem base_but (I : Inv X pins σ H1 s1) (hP : H1 P ≠ none) {s2 : Shared} (h : ∀ b o, b ≠ P → s1.heap.get? b = some o → s2.heap.get? b = some o) : ∀ b o, X.base.get? b = some o → s2.heap.get? b = some o := fun b o e => by
  obtain ⟨h1, h2⟩ := I.bs b o e
  exact h b o (fun z => hP (by rw [← z]; exact h2)) h1
/-- the cell of a slot -/
theorem cell_at (I : Inv X pins σ H1 s1) (hP : H1 P ≠ none) {i : Nat} {x : Str} {v : V} (hN : X.N[i]? = some x) (hσ : σ[i]? = some (some v)) (hv : X.env.scope.names.lookup x = some .cell ∨ X.env.scope.names.lookup x = some .free) {s2 : Shared}
    (h : ∀ b o, b ≠ P → s1.heap.get? b = some o → s2.heap.get? b = some o) : ∃ c u, X.env.cells.lookup x = some c ∧ RelV v u ∧ s2.heap.IsCell c (some u) := by
  obtain ⟨m, hn, hl⟩ := I.loc
  obtain ⟨u, r, l⟩ := hl i x v hN hσ (.inr hv)
  rcases l with ⟨z, _⟩ | ⟨_, c, e, hc⟩
  · have z : X.env.scope.names.lookup x = some .local := z
    rcases hv with q | q <;> · rw [z] at q; cases q
  · obtain ⟨o, ho, hd⟩ := hc
    exact ⟨c, u, e, r, o, h c o (fun q => hP (by rw [← q]; exact I.freeC x c e)) ho, hd⟩
/-- is_number(place, 0, hi) within a generator expression -/
theorem elt_num (I : Inv X pins σ H1 s1) (hP : H1 P ≠ none) (hr : Room k X.A) (F : Fun X.K "is_number" "is_number" sNum f fd) (bi : Binds X.K fd ["value", "low", "high"] []) (mgf : X.mg "is_number" = some (.ref f)) (B : Bi X.mg) {scope : Scope} {hiE : Expr} {p1 p2 p3 pos : Pos} {j : Nat} {vs : List V} {hi : Int}
    (gl : ∀ C code, (genEnv scope (cloFrom X.env.cells scope.names []) C code builtinsNs X.env).kindOf "is_number" = some .globalImplicit) (lp : ∀ C code, (genEnv scope (cloFrom X.env.cells scope.names []) C code builtinsNs X.env).kindOf "place" = some .local) (sk : scope.kind = .function)
    (hs : ∀ C code, starEach [.Name "place" p2, .Constant (.int 0) j p3, hiE] (genEnv scope (cloFrom X.env.cells scope.names []) C code builtinsNs X.env) = (false, eval (.Name "place" p2) (genEnv scope (cloFrom X.env.cells scope.names []) C code builtinsNs X.env)) :: starEach [.Constant (.int 0) j p3, hiE] (genEnv scope (cloFrom X.env.cells scope.names []) C code builtinsNs X.env))
    (hs2 : ∀ C code, starEach [.Constant (.int 0) j p3, hiE] (genEnv scope (cloFrom X.env.cells scope.names []) C code builtinsNs X.env) = (false, eval (.Constant (.int 0) j p3) (genEnv scope (cloFrom X.env.cells scope.names []) C code builtinsNs X.env)) :: starEach [hiE] (genEnv scope (cloFrom X.env.cells scope.names []) C code builtinsNs X.env))
    (hs3 : ∀ C code, starEach [hiE] (genEnv scope (cloFrom X.env.cells scope.names []) C code builtinsNs X.env) = (false, eval hiE (genEnv scope (cloFrom X.env.cells scope.names []) C code builtinsNs X.env)) :: starEach [] (genEnv scope (cloFrom X.env.cells scope.names []) C code builtinsNs X.env))
    (hhi : ∀ (C : Addr) (code : Value) (A' : Around) (E' : Value → Shared → Prop) (s2 : Shared) (tk : Nat) (Q : Value → Shared → Prop), (∀ b o, b ≠ P → s1.heap.get? b = some o → s2.heap.get? b = some o) → (∀ t tk, Q (.int hi t) { s2 with toks := tk }) →
      wpAny (model X.prog X.w) A' (eval hiE (genEnv scope (cloFrom X.env.cells scope.names []) C code builtinsNs X.env)) Q E' { s2 with toks := tk })
    (hv : ∀ v ∈ vs, ∃ n : Int, v = .int n ∧ 0 ≤ n ∧ n ≤ hi) : EltG X s1 P scope "place" (.Call (.Name "is_number" p1) [.Name "place" p2, .Constant (.int 0) j p3, hiE] [] pos) vs (fun _ => true) := by
  intro code C A' E' i v u s2 m2 hh hd hu hi' rv hn hm hk
  obtain ⟨n, rfl, n1, n2⟩ := hv v (List.mem_of_getElem? hi')
  obtain ⟨t1, rfl⟩ := rv
  have hb := base_but I hP hk
  have M := I.mod
  refine wpAny_Call_Name_kw (Calls.Name_function_global sk (gl C code) (Calls.loadGlobal_global (mg := X.mg) (by show s2.heap.Ns X.env.globals X.mg; rw [I.ok.glob]; exact M.glob.keeps hb) mgf ?_) (by decide))
  refine PySem.W.callWith_K (h₀ := X.base) M.kin F.kp (args_cons (wpAny_Name (wpAny_loadName_local sk (lp C code) hn hm ?_) (by decide)) (hs C code)) (hs C code) (by rw [hs2, hs3]; rfl)
  refine args_cons (wpAny_Constant_int ?_) (hs2 C code)
  refine args_cons (hhi C code A' E' s2 (s2.toks + 1) _ hk fun t tk => args_nil ⟨M.kin.keeps hb, wpAny_call ?_⟩) (hs3 C code)
  refine num_run (s := { s2 with toks := tk }) M F bi B (A := A') (by have := hr.dp; omega) hb n 0 hi t1 _ t n1 n2 fun s' kp => ?_
  exact ⟨rfl, Keeps.ofTok kp⟩
end
end Rs


set_option Elab.async false
set_option linter.all false
set_option maxRecDepth 100000
set_option maxHeartbeats 4000000
namespace Rs
open PySem PySem.Spec PyProof.Rows L2
/-- a def whose code object is known -/
def FunC (K : PySem.W.Frag) (x qual : Str) (st : Stmt) (f : Addr) (fd : FuncData) (c : Addr) : Prop :=
  ∃ (oc : Value) (od : Option Addr) (kV doc pm : Value) (an : Option Addr) (ct : Value) (osl : Array (Option Value)), fd = PySem.W.fnOf x qual (defArgs st) (defBody st) (defScope st) .none kV doc pm an (.ref c) ct ∧
    K.lookup f = some ⟨oc, od, .func fd, osl⟩ ∧ PySem.W.codeIn K (.ref c) qual = true
/-- is_number, as it may be called from within a generator expression -/
structure NumC (K : PySem.W.Frag) (mg : Str → Option Value) : Prop where
  ex : ∃ f fd, Fun K "is_number" "is_number" sNum f fd ∧ Binds K fd ["value", "low", "high"] [] ∧ mg "is_number" = some (.ref f)
abbrev sPerm : Stmt := topS 10
def spPerm (P : Addr) : Sp := fun vs H Q _ => ∃ a q, vs = [.ref a, .int (q.length : Nat)] ∧ TN H a q ∧ q.Nodup ∧ (∀ x ∈ q, x < q.length) ∧ q.length ≤ 5 ∧ GxR.TabG H P ∧ ∀ H', Kp [] H H' → Q (.bl true) H'
section
variable {P : Program} {w : World} {K : PySem.W.Frag} {mg : Str → Option Value} {base : Heap} {f : Addr} {fd : FuncData}
theorem scPerm : FnScope ["value", "many"] ["value", "many"] (defScope sPerm) := ⟨rfl, rfl, rfl, by decide +kernel, rfl, by decide +kernel, by decide +kernel⟩
theorem ok_perm {c Pt : Addr} (F : FunC K "is_permutation" "is_permutation" sPerm f fd c) (B : Bi mg) (TB : GxR.TabB base mg c Pt) (N : NumC K mg) : FnOk P w K mg base CX0 1 f fd ["value", "many"] (spPerm Pt) := by
  obtain ⟨oc, od, kV, doc, pm, an, ct, osl, rfl, lk, hcd⟩ := F
  obtain ⟨fn, fdn, Fn, bn, mgn⟩ := N.ex
  refine fn_of lk hcd scPerm (fun vs H Q E h => ?_) (fun A outer s H vs Q E hr h => ?_)
  · obtain ⟨a, q, rfl, _⟩ := h
    rfl
  obtain ⟨a, q, rfl, ha, nd, hlt, h5, ht, hq⟩ := h
  suffices h : ∃ t, PSs (cxOf CX0 P w K mg base ["value", "many"] "is_permutation" (defScope sPerm) f (.ref c) A outer s H E).nox (defBody sPerm) t ∧ t { nx := fun _ H' => Q .non H', rt := Q } (L2.start ["value", "many"] [.ref a, .int (q.length : Nat)]) H by
    obtain ⟨t, h1, h2⟩ := h
    exact ⟨t, h1.nox, h2⟩
  refine ⟨_, pss_cons (ps_if (PW.pt (pw_or (pt_not (pt_val (pe_callB call_isi rfl B.isi boot_isinstance (pa_cons (pv 0) (pa_cons (pe_bltn (v := .ty "tuple") rfl B.tuple boot_tuple rfl) pa_nil))))) (pw_or1 (pt_cmpR op_ne (pe_callB call_len_seq rfl B.len boot_len (pa_cons (pv 0) pa_nil)) (pv 1) (nomark _))))) (pss_one (ps_ret pe_bl)) pss_nil)
    (pss_one (ps_ret (pe_and (pe_allT (c := c) (P := Pt) (R := fun σ vs pb H1 => ∃ m : Int, σ[1]? = some (some (.int m)) ∧ pb = (fun _ => true) ∧ ∀ v ∈ vs, ∃ k : Int, v = .int k ∧ 0 ≤ k ∧ k ≤ m - 1) hr rfl B.all TB rfl ?S (pv 0) ?hel)
      (pe_one (pe_cmpR op_eq (pe_lenSetT rfl B.len rfl B.set (pv 0)) (pv 1) (nomark _)))))), ?_⟩
  case S => exact ⟨rfl, rfl, by decide +kernel, rfl, rfl, fun y hy e => by
    rcases List.mem_cons.mp hy with rfl | hy
    · cases e
    · rcases List.mem_cons.mp hy with rfl | hy
      · cases e
      · rcases List.mem_cons.mp hy with rfl | hy
        · exact ⟨_, rfl⟩
        · rcases List.mem_cons.mp hy with rfl | hy
          · cases e
          · cases hy⟩
  case hel =>
    rintro pins σ s1 H1 vs pb I hP ⟨m, hσ, rfl, hv⟩
    refine elt_num I hP hr Fn bn mgn B (fun _ _ => rfl) (fun _ _ => rfl) rfl (fun _ _ => rfl) (fun _ _ => rfl) (fun _ _ => rfl) (fun C code A' E' s2 tk Q hk hq => ?_) hv
    obtain ⟨cc, u, ec, ru, hcell⟩ := cell_at I hP (i := 1) rfl hσ (.inl rfl) hk
    obtain ⟨t, rfl⟩ := ru
    refine wpAny_BinOp (wpAny_Name (wpAny_loadName_free (c := cc) rfl rfl (by show some ((List.lookup _ _).getD 0) = some cc; rw [ec]; rfl) hcell ?_) rfl)
    exact wpAny_Constant_int (sub_int (hq _ _))
  refine ⟨_, rfl, _, _, _, _, _, rfl, .ty _, .base (.tup ha), kit_ty (b := "tuple") (r := true) (by decide +kernel), _, rfl, _, rfl, a, _, rfl, .inr (SqT.of ha), _, rfl, rfl, _, rfl, ?_⟩
  rw [nvs_length]
  refine iteNS rfl ?_
  refine ⟨_, rfl, a, nvs q, fun _ => true, rfl, SqT.of ha, ht, ⟨(q.length : Nat), rfl, rfl, fun v hv => ?_⟩, fun H2 hT => ?_⟩
  · obtain ⟨n, hn, rfl⟩ := List.mem_map.mp hv
    have := hlt n hn
    exact ⟨n, rfl, by omega, by omega⟩
  have kp : Kp [] H H2 := Kp.tabbed hT ht
  refine ⟨true, by simp, ?_⟩
  refine ⟨_, rfl, a, q.map fun n : Nat => (n : Int), rfl, ?_, ?_, ?_, _, rfl, rfl, ?_⟩
  · rw [← nvs_map]
    exact SqT.of (kp.tup _ _ ha)
  · exact List.pairwise_map.mpr (nd.imp fun h e => h (by omega))
  · rw [List.length_map]
    omega
  · rw [List.length_map, decide_eq_true rfl]
    exact hq H2 kp
end
end Rs


set_option Elab.async false
set_option linter.all false
set_option maxRecDepth 100000
set_option maxHeartbeats 4000000
namespace Rs
open PySem PySem.Spec PyProof.Rows L2
/-- the module's constants -/
structure Cn (mg : Str → Option Value) : Prop where
  lp : ∃ t, mg "LEAST_PLACES" = some (.int 2 t)
  mp : ∃ t, mg "MOST_PLACES" = some (.int 5 t)
  mm : ∃ t, mg "MOST_MANY" = some (.int 5 t)
  left : ∃ t, mg "LEFT" = some (.str "left" t)
  test : ∃ t, mg "TEST" = some (.str "test" t)
abbrev sNeedH : Stmt := topS 11
def HabG (h : List (List Nat)) : Prop := 2 ≤ h.length ∧ h.length ≤ 5 ∧ ∀ q ∈ h, q.length = h.length ∧ q.Nodup ∧ ∀ x ∈ q, x < h.length
def spNeedH (P : Addr) : Sp := fun vs H Q _ => ∃ a h, vs = [.ref a] ∧ Hab1 H a h ∧ HabG h ∧ GxR.TabG H P ∧ ∀ H', Kp [] H H' → Q .non H'
section
variable {P : Program} {w : World} {K : PySem.W.Frag} {mg : Str → Option Value} {base : Heap} {f : Addr} {fd : FuncData}
theorem scNeedH : FnScope ["value", "place", "moved"] ["value"] (defScope sNeedH) := ⟨rfl, rfl, rfl, by decide +kernel, rfl, by decide +kernel, by decide +kernel⟩
theorem ok_needH {Pt : Addr} (F : Fun K "need_habit" "need_habit" sNeedH f fd) (B : Bi mg) (C : Cn mg) (cP : Cl P w K mg base CX0 1 "is_permutation" ["value", "many"] (spPerm Pt)) : FnOk P w K mg base CX0 2 f fd ["value"] (spNeedH Pt) := by
  obtain ⟨fP, fdP, gP, mgP, kpP, bP⟩ := cP
  obtain ⟨t1, lp⟩ := C.lp
  obtain ⟨t2, mp⟩ := C.mp
  refine F.ok scNeedH (fun vs H Q E h => ?_) (fun cdv A outer s H vs Q E hr h => ?_)
  · obtain ⟨a, h, rfl, _⟩ := h
    rfl
  obtain ⟨a, h, rfl, ha, hG, ht, q⟩ := h
  refine ⟨_, pss_cons (ps_if (PW.pt (pw_or (pt_not (pt_val (pe_callB call_isi rfl B.isi boot_isinstance (pa_cons (pv 0) (pa_cons (pe_bltn (v := .ty "tuple") rfl B.tuple boot_tuple rfl) pa_nil)))))
        (pw_or1 (pt_not (pt_chain op_le op_le (pe_glob (v := .int 2) rfl lp ⟨_, rfl⟩) (pe_callB call_len_seq rfl B.len boot_len (pa_cons (pv 0) pa_nil)) (pe_glob (v := .int 5) rfl mp ⟨_, rfl⟩)))))) (pss_one ps_never) pss_nil)
    (pss_one (ps_for PassesOwn.never rfl (pi_enumT rfl B.enum (pa_cons (pv 0) pa_nil)) (pg_tup rfl (pgs_cons (pg_name (i := 1) scNeedH.nd rfl (.inl rfl)) (pgs_cons (pg_name (i := 2) scNeedH.nd rfl (.inl rfl)) pgs_nil)))
      (pss_one (ps_if (pt_not (pt_val (pe_call gP hr rfl mgP kpP bP .nil pass0 (pa_cons (pv 2) (pa_cons (pe_callB call_len_seq rfl B.len boot_len (pa_cons (pv 0) pa_nil)) pa_nil))))) (pss_one ps_never) pss_nil)))), ?_⟩
  obtain ⟨xs, e1, hl, f1⟩ := ha.at
  obtain ⟨h2, h5, hq⟩ := hG
  refine ⟨_, rfl, _, _, _, _, _, rfl, .ty _, .base (.tup e1), kit_ty (b := "tuple") (r := true) (by decide +kernel), _, rfl, _, rfl, a, _, rfl, .inr (SqT.of e1), _, _, rfl, rfl, _, rfl, ?_⟩
  rw [hl, decide_eq_true (by omega : (2 : Int) ≤ ((h.length : Nat) : Int))]
  refine ⟨_, _, rfl, rfl, _, rfl, ?_⟩
  rw [decide_eq_true (by omega : ((h.length : Nat) : Int) ≤ 5)]
  refine ⟨_, rfl, a, xs, rfl, SqT.of e1, ?_⟩
  refine for_enumT (K := K) (a := a) (xs := xs) (fun j σ H' => ∃ b c, σ = [some (.ref a), b, c] ∧ Kp [] H H') ⟨none, none, rfl, Kp.refl _⟩ (fun j σ H' ⟨_, _, _, k⟩ => SqT.of (k.tup _ _ e1)) ?_ ?_
  · rintro i x T σ H' hx ⟨b, c, rfl, k⟩ hT
    have hi : i < h.length := by rw [← hl]; exact (List.getElem?_eq_some_iff.mp hx).1
    obtain ⟨bq, e2, e3⟩ := f1 i _ (List.getElem?_eq_getElem hi)
    rw [hx] at e2
    cases e2
    have kT : Kp [] H (upd H' T (.tup [.int (i : Nat), .ref bq])) := k.trans (Kp.new hT _)
    obtain ⟨q1, q2, q3⟩ := hq _ (List.getElem_mem hi)
    refine ⟨T, _, rfl, SqT.of upd_same, rfl, _, _, rfl, _, _, rfl, rfl, ?_⟩
    refine ⟨_, rfl, _, rfl, a, xs, rfl, .inr (SqT.of (kT.tup _ _ e1)), bq, h[i], by rw [hl, q1]; rfl, kT.tup _ _ e3, q2, by rw [q1]; exact q3, by omega, kT.tab _ ht, fun H2 k2 => ?_⟩
    exact ⟨_, rfl, _, _, rfl, kT.trans k2⟩
  · rintro σ H' ⟨b, c, rfl, k⟩
    exact q H' k
end
/-! ### need_lot -/
abbrev sNeedL : Stmt := topS 13
def spNeedL (P : Addr) : Sp := fun vs H Q _ => ∃ ha la xs lot, vs = [.ref ha, .ref la] ∧ H ha = some (.tup xs) ∧ TN H la lot ∧ lot ≠ [] ∧ lot.Pairwise (· < ·) ∧ (∀ x ∈ lot, x < xs.length) ∧ xs.length ≤ 5 ∧ GxR.TabG H P ∧ ∀ H', Kp [] H H' → Q .non H'
theorem cut1 (ns : List Nat) (h : ns ≠ []) : cutV (nvs ns) (some 1) none = nvs (ns.drop 1) := by
  have e : HT.sIx (nvs ns).length 0 (some 1) = 1 := by
    have z := HT.sIx_nat (nvs ns).length 0 1
    have l := len_pos h
    rw [show (some (1 : Int)) = some ((1 : Nat) : Int) from rfl, z, nvs_length]
    omega
  unfold cutV
  rw [e, HT.sIx_none, List.take_of_length_le (by rw [List.length_drop]; omega)]
  unfold nvs
  rw [List.map_drop]
theorem asc_next : ∀ {ns : List Nat}, ns.Pairwise (· < ·) → ∀ {i x y : Nat}, ns[i]? = some x → (ns.drop 1)[i]? = some y → x < y
  | [], _, i, x, y, h, _ => by simp at h
  | a :: ns, p, i, x, y, h, h' => by
    have h' : ns[i]? = some y := h'
    have hy : y ∈ ns := List.mem_of_getElem? h'
    cases i with
    | zero =>
      rw [List.getElem?_cons_zero] at h
      cases h
      exact List.rel_of_pairwise_cons p hy
    | succ i =>
      rw [List.getElem?_cons_succ] at h
      exact asc_next (List.Pairwise.of_cons p) h (by rw [List.getElem?_drop, Nat.add_comm]; exact h')
section
variable {P : Program} {w : World} {K : PySem.W.Frag} {mg : Str → Option Value} {base : Heap} {f : Addr} {fd : FuncData}
theorem scNeedL : FnScope ["habit", "value"] ["habit", "value"] (defScope sNeedL) := ⟨rfl, rfl, rfl, by decide +kernel, rfl, by decide +kernel, by decide +kernel⟩
theorem ok_needL {c Pt : Addr} (F : FunC K "need_lot" "need_lot" sNeedL f fd c) (B : Bi mg) (TB : GxR.TabB base mg c Pt) (N : NumC K mg) : FnOk P w K mg base CX0 1 f fd ["habit", "value"] (spNeedL Pt) := by
  obtain ⟨oc, od, kV, doc, pm, an, ct, osl, rfl, lk, hcd⟩ := F
  obtain ⟨fn, fdn, Fn, bn, mgn⟩ := N.ex
  refine fn_of lk hcd scNeedL (fun vs H Q E h => ?_) (fun A outer s H vs Q E hr h => ?_)
  · obtain ⟨ha, la, xs, lot, rfl, _⟩ := h
    rfl
  obtain ⟨ha, la, xs, lot, rfl, hh, hl, hne, hp, hlt, h5, ht, hq⟩ := h
  suffices h : ∃ t, PSs (cxOf CX0 P w K mg base ["habit", "value"] "need_lot" (defScope sNeedL) f (.ref c) A outer s H E).nox (defBody sNeedL) t ∧ t { nx := fun _ H' => Q .non H', rt := Q } (L2.start ["habit", "value"] [.ref ha, .ref la]) H by
    obtain ⟨t, h1, h2⟩ := h
    exact ⟨t, h1.nox, h2⟩
  refine ⟨_, pss_cons (ps_if (PW.pt (pw_or (pt_not (pt_val (pe_callB call_isi rfl B.isi boot_isinstance (pa_cons (pv 1) (pa_cons (pe_bltn (v := .ty "tuple") rfl B.tuple boot_tuple rfl) pa_nil)))))
        (pw_or (pt_not (pt_truth (pv 1) fun _ => rfl))
          (pw_or1 (pt_not (pt_val (pe_allT (c := c) (P := Pt) (R := fun σ vs pb H1 => ∃ (a : Addr) (xs : List V), GxR.TabG H1 Pt ∧ σ[0]? = some (some (.ref a)) ∧ H1 a = some (.tup xs) ∧ xs.length ≤ 5 ∧ pb = (fun _ => true) ∧ ∀ v ∈ vs, ∃ k : Int, v = .int k ∧ 0 ≤ k ∧ k ≤ (xs.length : Int) - 1) hr rfl B.all TB rfl ?S (pv 1) ?hel)))))))
      (pss_one ps_never) pss_nil)
    (pss_one (ps_if (pt_not (pt_val (pe_allZ (c := c) (P := Pt) (R := fun σ vs ws pb H1 => pb = (fun _ => true) ∧ ∀ (i : Nat) (v v' : V), vs[i]? = some v → ws[i]? = some v' → ∃ k k' : Int, v = .int k ∧ v' = .int k' ∧ k < k') hr rfl B.all rfl B.zip TB rfl ?S2 (pa_cons (pv 1) (pa_cons (pe_slice sl_tupN (pv 1) (po_some pe_int) po_none) pa_nil)) ?hel2)))
      (pss_one ps_never) pss_nil)), ?_⟩
  case S => exact ⟨rfl, rfl, by decide +kernel, rfl, rfl, fun y hy e => by
    rcases List.mem_cons.mp hy with rfl | hy
    · cases e
    · rcases List.mem_cons.mp hy with rfl | hy
      · cases e
      · rcases List.mem_cons.mp hy with rfl | hy
        · exact ⟨_, rfl⟩
        · rcases List.mem_cons.mp hy with rfl | hy
          · cases e
          · rcases List.mem_cons.mp hy with rfl | hy
            · cases e
            · cases hy⟩
  case S2 => exact ⟨rfl, rfl, by decide +kernel, rfl, rfl, rfl, by decide, fun y hy e => by
    rcases List.mem_cons.mp hy with rfl | hy
    · cases e
    · rcases List.mem_cons.mp hy with rfl | hy
      · cases e
      · rcases List.mem_cons.mp hy with rfl | hy
        · cases e
        · cases hy⟩
  case hel =>
    rintro pins σ s1 H1 vs pb I hP ⟨a, xs, ⟨ps, htb, _⟩, hσ, ha1, hx5, rfl, hv⟩
    refine elt_num I hP hr Fn bn mgn B (fun _ _ => rfl) (fun _ _ => rfl) rfl (fun _ _ => rfl) (fun _ _ => rfl) (fun _ _ => rfl) (fun C code A' E' s2 tk Q hk hq => ?_) hv
    obtain ⟨cc, u, ec, ru, hcell⟩ := cell_at I hP (i := 0) rfl hσ (.inl rfl) hk
    obtain rfl : u = Value.ref a := ru
    obtain ⟨its, rv, pl, hz⟩ := I.tuple (SqT.of (K := K) ha1)
    have hlen := rv.length
    have hn := line63
    have naP : a ≠ Pt := fun z => by
      rw [z, htb] at ha1
      cases ha1
    have hb := base_but I hP hk
    obtain ⟨mb, m1, m2⟩ := I.mod.blt
    refine wpAny_BinOp (wpAny_Call_Name_kw (Calls.Name_function_global rfl rfl (Calls.loadGlobal_builtin (I.mod.glob.keeps hb) B.len (m1.keeps hb) ((m2 _ (by decide)).trans boot_len) (PyProof.Rows.callWith_builtin1 (args_cons (wpAny_Name (wpAny_loadName_free (c := cc) rfl rfl (by show some ((List.lookup _ _).getD 0) = some cc; rw [ec]; rfl) hcell (args_nil ?_)) rfl) rfl) rfl rfl))))
    obtain ⟨o, ho, r⟩ := pl
    refine PyProof.Rows.len_tuple (show PyProof.Rows.IsTup s2.heap a its.toArray from ⟨o, hk a o naP ho, r⟩) (by simp only [List.size_toArray]; omega) ?_
    rw [List.size_toArray, ← hlen]
    exact wpAny_Constant_int (sub_int (hq _ _))
  case hel2 =>
    rintro pins σ s1 H1 vs ws pb I hP ⟨rfl, hv⟩ code C A' E' i v v' u u' s2 m2 hh hd hu e1 e2 r1 r2 hn hm1 hm2 hk
    obtain ⟨k, k', rfl, rfl, hlt'⟩ := hv i v v' e1 e2
    obtain ⟨t1, rfl⟩ := r1
    obtain ⟨t2, rfl⟩ := r2
    refine wpAny_Compare1 (wpAny_Name (wpAny_loadName_local rfl rfl hn hm1 (wpAny_Name (wpAny_loadName_local rfl rfl hn hm2 (lt_int ?_)) rfl)) rfl)
    exact ⟨by rw [decide_eq_true hlt'], ⟨s2.heap, s2.toks, rfl, fun _ _ e => e⟩⟩
  refine ⟨_, rfl, _, _, _, _, _, rfl, .ty _, .base (.tup hl), kit_ty (b := "tuple") (r := true) (by decide +kernel), _, rfl, _, rfl, true, .inr (.inl ⟨_, SqT.of hl, ?_⟩), ?_⟩
  · cases lot with
    | nil => exact absurd rfl hne
    | cons _ _ => rfl
  refine ⟨_, rfl, la, nvs lot, fun _ => true, rfl, SqT.of hl, ht, ⟨ha, xs, ht, rfl, hh, h5, rfl, fun v hv => ?_⟩, fun H2 hT => ?_⟩
  · obtain ⟨n, hn, rfl⟩ := List.mem_map.mp hv
    have := hlt n hn
    exact ⟨n, rfl, by omega, by omega⟩
  have k2 : Kp [] H H2 := Kp.tabbed hT ht
  have a1 : (List.range (nvs lot).length).all (fun _ => true) = true := by simp
  rw [a1]
  refine ⟨_, rfl, _, rfl, _, rfl, _, rfl, la, nvs lot, rfl, k2.tup _ _ hl, fun p H3 k3 e3 => ?_⟩
  rw [cut1 lot hne] at e3
  have k23 := k2.trans k3
  refine ⟨la, p, nvs lot, nvs (lot.drop 1), fun _ => true, rfl, SqT.of (k23.tup _ _ hl), SqT.of e3, k23.tab _ ht, ⟨rfl, fun i v v' h1 h2 => ?_⟩, fun H4 hT4 => ?_⟩
  · obtain ⟨x, hx, rfl⟩ := nvs_at h1
    obtain ⟨y, hy, rfl⟩ := nvs_at h2
    have := asc_next hp hx hy
    exact ⟨x, y, rfl, rfl, by omega⟩
  have a2 : (List.range (min (nvs lot).length (nvs (lot.drop 1)).length)).all (fun _ => true) = true := by simp
  rw [a2]
  exact ⟨_, rfl, hq H4 (k23.trans (Kp.tabbed hT4 (k23.tab _ ht)))⟩
end
end Rs


set_option Elab.async false
set_option linter.all false
set_option maxRecDepth 100000
set_option maxHeartbeats 4000000
namespace Rs
open PySem PySem.Spec PyProof.Rows L2
abbrev sNeedM : Stmt := topS 18
def spNeedM (P : Addr) : Sp := fun vs H Q _ => ∃ a hs pl lot, vs = [.ref a] ∧ HabsAt H a hs ∧ Good hs pl lot ∧ GxR.TabG H P ∧ ∀ H', Kp [] H H' → Q .non H'
theorem Good.habG {hs : HabL} {pl : Nat} {lot : List Nat} (G : Good hs pl lot) {h : List (List Nat)} (hh : h ∈ hs) : HabG h := by
  obtain ⟨a, b⟩ := G.hab h hh
  exact ⟨by rw [a]; exact G.p2, by rw [a]; exact G.p5, by rw [a]; exact b⟩
section
variable {P : Program} {w : World} {K : PySem.W.Frag} {mg : Str → Option Value} {base : Heap} {f : Addr} {fd : FuncData}
theorem scNeedM : FnScope ["value", "index", "habit"] ["value"] (defScope sNeedM) := ⟨rfl, rfl, rfl, by decide +kernel, rfl, by decide +kernel, by decide +kernel⟩
theorem ok_needM {Pt : Addr} (F : Fun K "need_many" "need_many" sNeedM f fd) (B : Bi mg) (C : Cn mg) (cH : Cl P w K mg base CX0 2 "need_habit" ["value"] (spNeedH Pt)) : FnOk P w K mg base CX0 3 f fd ["value"] (spNeedM Pt) := by
  obtain ⟨fP, fdP, gP, mgP, kpP, bP⟩ := cH
  obtain ⟨t2, mp⟩ := C.mm
  refine F.ok scNeedM (fun vs H Q E h => ?_) (fun cdv A outer s H vs Q E hr h => ?_)
  · obtain ⟨a, hs, pl, lot, rfl, _⟩ := h
    rfl
  obtain ⟨a, hs, pl, lot, rfl, ha, G, ht, q⟩ := h
  refine ⟨_, pss_cons (ps_if (PW.pt (pw_or (pt_not (pt_val (pe_callB call_isi rfl B.isi boot_isinstance (pa_cons (pv 0) (pa_cons (pe_bltn (v := .ty "tuple") rfl B.tuple boot_tuple rfl) pa_nil)))))
        (pw_or1 (pt_not (pt_chain op_le op_le pe_int (pe_callB call_len_seq rfl B.len boot_len (pa_cons (pv 0) pa_nil)) (pe_glob (v := .int 5) rfl mp ⟨_, rfl⟩)))))) (pss_one ps_never) pss_nil)
    (pss_one (ps_for PassesOwn.never rfl (pi_enumT rfl B.enum (pa_cons (pv 0) pa_nil)) (pg_tup rfl (pgs_cons (pg_name (i := 1) scNeedM.nd rfl (.inl rfl)) (pgs_cons (pg_name (i := 2) scNeedM.nd rfl (.inl rfl)) pgs_nil)))
      (pss_cons (ps_try_thru0 (pss_one (ps_expr (pe_call gP hr rfl mgP kpP bP .nil pass0 (pa_cons (pv 2) pa_nil)))))
      (pss_one (ps_if (pt_cmpR op_ne (pe_callB call_len_seq rfl B.len boot_len (pa_cons (pv 2) pa_nil)) (pe_callB call_len_seq rfl B.len boot_len (pa_cons (pe_ix ix_tup (pv 0) pe_int (fun _ _ => rfl)) pa_nil)) (nomark _)) (pss_one ps_never) pss_nil))))), ?_⟩
  obtain ⟨xs, e1, hl, f1⟩ := ha.at
  have h1 := G.h1
  have h5 := G.h5
  refine ⟨_, rfl, _, _, _, _, _, rfl, .ty _, .base (.tup e1), kit_ty (b := "tuple") (r := true) (by decide +kernel), _, rfl, _, rfl, a, _, rfl, .inr (SqT.of e1), _, _, rfl, rfl, _, rfl, ?_⟩
  rw [hl, decide_eq_true (by omega : (1 : Int) ≤ ((hs.length : Nat) : Int))]
  refine ⟨_, _, rfl, rfl, _, rfl, ?_⟩
  rw [decide_eq_true (by omega : ((hs.length : Nat) : Int) ≤ 5)]
  refine ⟨_, rfl, a, xs, rfl, SqT.of e1, ?_⟩
  obtain ⟨b0, z0, hb0⟩ := f1 0 _ (List.getElem?_eq_getElem (by omega : 0 < hs.length))
  obtain ⟨ys0, e0, l0, _⟩ := hb0.at
  refine for_enumT (K := K) (a := a) (xs := xs) (fun j σ H' => ∃ b c, σ = [some (.ref a), b, c] ∧ Kp [] H H') ⟨none, none, rfl, Kp.refl _⟩ (fun j σ H' ⟨_, _, _, k⟩ => SqT.of (k.tup _ _ e1)) ?_ ?_
  · rintro i x T σ H' hx ⟨b, c, rfl, k⟩ hT
    have hi : i < hs.length := by rw [← hl]; exact (List.getElem?_eq_some_iff.mp hx).1
    obtain ⟨bq, e2, e3⟩ := f1 i _ (List.getElem?_eq_getElem hi)
    rw [hx] at e2
    cases e2
    have kT : Kp [] H (upd H' T (.tup [.int (i : Nat), .ref bq])) := k.trans (Kp.new hT _)
    obtain ⟨ys, e4, l4, _⟩ := e3.at
    refine ⟨T, _, rfl, SqT.of upd_same, rfl, _, _, rfl, _, _, rfl, rfl, ?_⟩
    refine ⟨_, rfl, bq, hs[i], rfl, e3.st kT.tup, G.habG (List.getElem_mem hi), kT.tab _ ht, fun H2 k2 => ?_⟩
    have k3 := kT.trans k2
    refine ⟨_, rfl, bq, ys, rfl, .inr (SqT.of (k3.tup _ _ e4)), _, rfl, a, xs, 0, _, rfl, rfl, SqT.of (k3.tup _ _ e1), atI_nat z0, b0, ys0, rfl, .inr (SqT.of (k3.tup _ _ e0)), rfl, _, rfl, ?_⟩
    rw [l4, l0, (G.hab _ (List.getElem_mem hi)).1, (G.hab _ (List.getElem_mem (by omega : 0 < hs.length))).1]
    exact iteNS rfl ⟨_, _, rfl, k3⟩
  · rintro σ H' ⟨b, c, rfl, k⟩
    exact q H' k
end
end Rs


set_option Elab.async false
set_option linter.all false
set_option maxRecDepth 100000
set_option maxHeartbeats 4000000
namespace Rs
open PySem PySem.Spec PyProof.Rows L2
abbrev sBInit : Stmt := inClass (topS 22) 0
abbrev sBTree : Stmt := inClass (topS 22) 1
/-- Best's fields -/
def bf (ha la d : Addr) : List (Str × V) := putF "known" (.ref d) (putF "lot" (.ref la) (putF "habits" (.ref ha) []))
theorem nhl : ¬ (("habits" : Str) = "lot") := by decide +kernel
theorem nhk : ¬ (("habits" : Str) = "known") := by decide +kernel
theorem nlk : ¬ (("lot" : Str) = "known") := by decide +kernel
theorem bf_h (ha la d : Addr) : (bf ha la d).lookup ("habits" : Str) = some (.ref ha) := by
  unfold bf
  rw [lookup_putF, if_neg nhk, lookup_putF, if_neg nhl, lookup_putF, if_pos rfl]
theorem bf_l (ha la d : Addr) : (bf ha la d).lookup ("lot" : Str) = some (.ref la) := by
  unfold bf
  rw [lookup_putF, if_neg nlk, lookup_putF, if_pos rfl]
theorem bf_k (ha la d : Addr) : (bf ha la d).lookup ("known" : Str) = some (.ref d) := by
  unfold bf
  rw [lookup_putF, if_pos rfl]
theorem bf_t (ha la d : Addr) : (bf ha la d).lookup ("tree" : Str) = none := by
  unfold bf
  rw [lookup_putF, if_neg (by decide +kernel), lookup_putF, if_neg (by decide +kernel), lookup_putF, if_neg (by decide +kernel)]
  rfl
/-- facts of the class -/
structure BC (K : PySem.W.Frag) (mg : Str → Option Value) (C : Addr) : Prop where
  cl : Cls K C
  nH : NoAttr K C "habits"
  nL : NoAttr K C "lot"
  nK : NoAttr K C "known"
  mgC : mg "Best" = some (.ref C)
def spBInit (C : Addr) : Sp := fun vs H Q _ => ∃ p ha la dx, vs = [.ref p, .ref ha, .ref la] ∧ H p = some (.ins C dx []) ∧ ∀ d H', H d = none → Kp [p] H H' → H' p = some (.ins C dx (bf ha la d)) → H' d = some (.dT []) → Q .non H'
section
variable {P : Program} {w : World} {K : PySem.W.Frag} {mg : Str → Option Value} {base : Heap} {f : Addr} {fd : FuncData}
theorem scBInit : FnScope ["self", "habits", "lot"] ["self", "habits", "lot"] (defScope sBInit) := ⟨rfl, rfl, rfl, by decide +kernel, rfl, by decide +kernel, by decide +kernel⟩
theorem ok_binit {C : Addr} (F : Fun K "__init__" "Best.__init__" sBInit f fd) (T : BC K mg C) : FnOk P w K mg base CX0 1 f fd ["self", "habits", "lot"] (spBInit C) := by
  refine F.ok scBInit (fun vs H Q E h => ?_) (fun cdv A outer s H vs Q E hr h => ?_)
  · obtain ⟨p, ha, la, dx, rfl, _⟩ := h
    rfl
  obtain ⟨p, ha, la, dx, rfl, hp, k⟩ := h
  refine ⟨_, pss_cons (ps_fld (pv 0) (pv 1) rfl) (pss_cons (ps_fld (pv 0) (pv 2) rfl) (pss_one (ps_fld (pv 0) pe_dctN rfl))), ?_⟩
  refine ⟨_, rfl, _, rfl, p, C, dx, _, rfl, hp, T.cl, T.nH, (by show 0 < 1000; decide), _, rfl, _, rfl, p, C, dx, _, rfl, upd_same, T.cl, T.nL, (by show 1 < 1000; decide), fun d H2 hd k2 e2 => ?_⟩
  have k1 : Kp [p] H (upd H p (.ins C dx (putF "habits" (.ref ha) []))) := Kp.put (by rw [hp]; trivial) List.mem_cons_self _
  have k1' : Kp [p] (upd H p (.ins C dx (putF "habits" (.ref ha) []))) (upd (upd H p (.ins C dx (putF "habits" (.ref ha) []))) p (.ins C dx (putF "lot" (.ref la) (putF "habits" (.ref ha) [])))) := Kp.put (by rw [upd_same]; trivial) List.mem_cons_self _
  have hp2 := k2.ins (upd_same (H := upd H p (.ins C dx (putF "habits" (.ref ha) []))) (a := p) (o := .ins C dx (putF "lot" (.ref la) (putF "habits" (.ref ha) [])))) (by simp)
  have npd : p ≠ d := fun z => by rw [← z, upd_same] at hd; cases hd
  refine ⟨_, rfl, p, C, dx, _, rfl, hp2, T.cl, T.nK, (by show (putF "lot" (.ref la) [(("habits" : Str), V.ref ha)]).length < 1000; show (if ("habits" : Str) = "lot" then [(("habits" : Str), V.ref la)] else (("habits" : Str), V.ref ha) :: putF "lot" (V.ref la) []).length < 1000; rw [if_neg nhl]; show 2 < 1000; decide), ?_⟩
  refine k d _ (k1.dom _ (k1'.dom _ hd)) (k1.trans (k1'.trans (k2.up.trans (Kp.put (by rw [hp2]; trivial) List.mem_cons_self _)))) ?_ ?_
  · rw [upd_same]
    rfl
  · rw [upd_ne npd.symm]
    exact e2
end
/-! ### Best.tree -/
def RB (H : Hp) (v : V) (x : Nat × T) : Prop := ∃ a b, v = .ref a ∧ H a = some (.tup [nv x.1, .ref b]) ∧ TreeAt H b x.2
theorem RB.stb : Stb RB := fun H H' v x k ⟨a, b, e, h1, h2⟩ => ⟨a, b, e, k _ _ h1, h2.st k⟩
def spBTree (C : Addr) (n : Nat) : Sp := fun vs H Q _ => ∃ p ga ha la d dx hs pl lot g D, vs = [.ref p, .ref ga] ∧ H p = some (.ins C dx (bf ha la d)) ∧ Good hs pl lot ∧ Grp hs g ∧ g.length < n ∧ HabsAt H ha hs ∧ TN H la lot ∧ TN H ga g ∧ DA RB H d D ∧ KnB hs lot D ∧
  ∀ r b t D' H', Kp [d] H H' → DA RB H' d D' → KnB hs lot D' → H' r = some (.tup [nv (lw hs lot g), .ref b]) → TreeAt H' b t → wv hs lot g t = some (lw hs lot g) → Q (.ref r) H'
abbrev nBTree : List Str := ["self", "group", "parted", "found", "marked", "rest", "one", "two", "worst", "index"]
theorem scBTree : FnScope nBTree ["self", "group"] (defScope sBTree) := ⟨rfl, rfl, rfl, by decide +kernel, rfl, by decide +kernel, by decide +kernel⟩
theorem rst_snoc {g S : List Nat} {i n : Nat} (h : g[i]? = some n) : rst (g.take (i + 1)) S = rst (g.take i) S ++ (if n ∈ S then [] else [n]) := by
  rw [take_snoc h]
  unfold rst
  rw [List.filter_append]
  congr 1
  by_cases e : n ∈ S
  · rw [if_pos e, List.filter_cons_of_neg (by rw [decide_eq_true e]; exact Bool.false_ne_true)]
    rfl
  · rw [if_neg e, List.filter_cons_of_pos (by rw [decide_eq_false e]; rfl)]
    rfl
theorem rst_len (g S : List Nat) : (rst g S).length ≤ g.length := List.length_filter_le _ _
theorem max_nv (a b : Nat) : V.int (if (b : Int) > (a : Int) then (b : Int) else (a : Int)) = nv (max a b) := by
  have e : (if (b : Int) > (a : Int) then (b : Int) else (a : Int)) = ((max a b : Nat) : Int) := by
    split <;> omega
  rw [e]
theorem refs_keys {H : Hp} {kbs bs : List Addr} {L : List (List Nat)} (h : RefsN H kbs L) (pm : bs.Perm kbs) : ∃ O, RefsN H bs O ∧ ∀ S, S ∈ O ↔ S ∈ L := by
  have two : (∀ b ∈ kbs, ∃ m, m ∈ L ∧ TN H b m) ∧ ∀ m ∈ L, ∃ b, b ∈ kbs ∧ TN H b m := by
    unfold RefsN at h
    clear pm
    induction h with
    | nil => exact ⟨fun _ z => (List.not_mem_nil z).elim, fun _ z => (List.not_mem_nil z).elim⟩
    | cons r t ih =>
      refine ⟨fun b hb => ?_, fun m hm => ?_⟩
      · rcases List.mem_cons.mp hb with z | z
        · rw [z]
          exact ⟨_, List.mem_cons_self, r⟩
        · obtain ⟨m, h1, h2⟩ := ih.1 b z
          exact ⟨m, List.mem_cons_of_mem _ h1, h2⟩
      · rcases List.mem_cons.mp hm with z | z
        · rw [z]
          exact ⟨_, List.mem_cons_self, r⟩
        · obtain ⟨b, h1, h2⟩ := ih.2 m z
          exact ⟨b, List.mem_cons_of_mem _ h1, h2⟩
  have build : ∀ bs : List Addr, (∀ b ∈ bs, ∃ m, m ∈ L ∧ TN H b m) → ∃ O, RefsN H bs O ∧ ∀ S ∈ O, S ∈ L := by
    intro bs
    induction bs with
    | nil => exact fun _ => ⟨[], .nil, fun _ z => (List.not_mem_nil z).elim⟩
    | cons b bs ih =>
      intro hb
      obtain ⟨O, h1, h2⟩ := ih fun b' h' => hb b' (List.mem_cons_of_mem _ h')
      obtain ⟨m, h3, h4⟩ := hb b List.mem_cons_self
      exact ⟨m :: O, .cons h4 h1, fun S hS => (List.mem_cons.mp hS).elim (fun z => by rw [z]; exact h3) (h2 S)⟩
  have inO : ∀ {bs : List Addr} {O : List (List Nat)}, RefsN H bs O → ∀ b ∈ bs, ∃ S, S ∈ O ∧ TN H b S := by
    intro bs O h
    unfold RefsN at h
    induction h with
    | nil => exact fun _ z => (List.not_mem_nil z).elim
    | cons r t ih =>
      intro b hb
      rcases List.mem_cons.mp hb with z | z
      · rw [z]
        exact ⟨_, List.mem_cons_self, r⟩
      · obtain ⟨m, h1, h2⟩ := ih b z
        exact ⟨m, List.mem_cons_of_mem _ h1, h2⟩
  obtain ⟨O, h1, h2⟩ := build bs fun b hb => two.1 b (pm.mem_iff.mp hb)
  refine ⟨O, h1, fun S => ⟨h2 S, fun hS => ?_⟩⟩
  obtain ⟨b, hb, e⟩ := two.2 S hS
  obtain ⟨S', hS', e'⟩ := inO h1 b (pm.mem_iff.mpr hb)
  have e1 : H b = some (.tup (nvs S)) := e
  have e2 : H b = some (.tup (nvs S')) := e'
  rw [e1] at e2
  have z : nvs S = nvs S' := by
    have z := Option.some.inj e2
    injection z
  rw [nvs_inj z]
  exact hS'
theorem keys_refs {α : Type} {R : Hp → V → α → Prop} {H : Hp} {kvs : List (List L2.Key × V)} {D : List (List Nat × α)} (dp : DP R H kvs D) : ∀ {kbs : List Addr}, IsKeys H kvs kbs → RefsN H kbs (keys D) := by
  unfold DP at dp
  induction dp with
  | nil =>
    intro kbs k
    unfold IsKeys at k
    cases k
    exact .nil
  | @cons a b l₁ l₂ r t ih =>
    intro kbs k
    unfold IsKeys at k
    cases k with
    | cons h1 h2 =>
      refine .cons ?_ (ih h2)
      have h1 : _ = _ := h1
      rw [r.1, ks_kV] at h1
      exact h1
/-- found, as it stands in its slot -/
def FA (H : Hp) (v : V) : Option (Nat × T) → Prop
  | none => v = .non
  | some x => RB H v x
theorem FA.st {H H' : Hp} {v : V} (k : Tk H H') : ∀ {fo : Option (Nat × T)}, FA H v fo → FA H' v fo
  | none, h => h
  | some x, h => RB.stb _ _ _ _ k h
section
variable {P : Program} {w : World} {K : PySem.W.Frag} {mg : Str → Option Value} {base : Heap} {f : Addr} {fd : FuncData}
theorem ok_btree {C : Addr} {n : Nat} (F : Fun K "tree" "Best.tree" sBTree f fd) (Tc : BC K mg C) (B : Bi mg) (N : Cn mg) (mT : Meth K C "tree" f) (bT : Binds K fd ["self", "group"] [])
    (cP : Cl P w K mg base CX0 2 "partings" ["habits", "lot", "group"] spPart) (cT : Cl P w K mg base CX0 1 "touches_of" ["test"] spTouch)
    (ih : FnOk P w K mg base CX0 (n + 2) f fd ["self", "group"] (spBTree C n)) : FnOk P w K mg base CX0 (n + 3) f fd ["self", "group"] (spBTree C (n + 1)) := by
  obtain ⟨fP, fdP, gP, mgP, kpP, bP⟩ := cP
  obtain ⟨fC, fdC, gC, mgC, kpC, bC⟩ := cT
  obtain ⟨t1, mgL⟩ := N.left
  obtain ⟨t2, mgT⟩ := N.test
  refine F.ok scBTree (fun vs H Q E h => ?_) (fun cdv A outer s H vs Q E hr h => ?_)
  · obtain ⟨p, ga, ha, la, d, dx, hs, pl, lot, g, D, rfl, _⟩ := h
    rfl
  obtain ⟨p, ga, ha, la, d, dx, hs, pl, lot, g, D, rfl, hp, G, hg, hlen, hh, hl, hgr, dd, Kn, q⟩ := h
  have hu := hu_of hr
  have hr1 : Room 1 (A.deeper (envOfC "Best.tree" (defScope sBTree) s.heap.objs.size f cdv)) := hr.mono (by omega)
  have hr2 : Room 2 (A.deeper (envOfC "Best.tree" (defScope sBTree) s.heap.objs.size f cdv)) := hr.mono (by omega)
  refine ⟨_, pss_cons (ps_if (pt_cmp (pc_dnotin hu (pv 1) (pe_fld (pv 0) rfl)))
      (pss_cons (ps_set (i := 2) scBTree.nd rfl (.inl rfl) (pe_call gP hr2 rfl mgP kpP bP .nil pass0 (pa_cons (pe_fld (pv 0) rfl) (pa_cons (pe_fld (pv 0) rfl) (pa_cons (pv 1) pa_nil)))))
      (pss_cons (ps_set (i := 3) scBTree.nd rfl (.inl rfl) (pe_ifExp (pt_cmpR (op_neE hr.units0) (pv 2) pe_dctN (nomark _)) pe_non (pe_tupN (pa_cons pe_int (pa_cons (pe_tupN (pa_cons (pe_glob (v := .str "left") rfl mgL ⟨_, rfl⟩) (pa_cons (pv 1) pa_nil))) pa_nil)))))
      (pss_cons (ps_for PassesOwn.never rfl (pi_list (pe_sortedK rfl rfl B.sorted (pv 2))) (pg_name (i := 4) scBTree.nd rfl (.inr rfl))
        (pss_cons (ps_set (i := 5) scBTree.nd rfl (.inl rfl) (pe_callTy call_tupL rfl B.tuple boot_tuple (pa_cons (pe_lc (own := [("index", 9)]) (g := gName 9) (tt := tTest (tOp (rIn K true) (tVar 9) (tVar 4))) rfl scBTree.nd (pi_tup (pv 1)) (blkOk_by (own := [("index", 9)]) (N := nBTree) (sc := defScope sBTree) (by decide +kernel))
            (fun _ _ _ _ _ => pg_name (i := 9) scBTree.nd rfl (.inl rfl)) (fun _ _ _ _ _ => pts_one (pt_cmpR (r := rIn K true) op_notIn_seq (pv 9) (pv 4) rfl)) (fun _ _ _ _ _ => pv 9)) pa_nil)))
        (pss_cons (ps_par (i := 6) (j := 7) rfl scBTree.nd rfl rfl (by decide) rfl rfl (pa_cons (pe_meth (pv 0) Tc.cl mT ih hr bT .nil pass0 (pa_cons (pv 4) pa_nil)) (pa_cons (pe_meth (pv 0) Tc.cl mT ih hr bT .nil pass0 (pa_cons (pv 5) pa_nil)) pa_nil)) rfl)
        (pss_cons (ps_set (i := 8) scBTree.nd rfl (.inl rfl) (pe_op op_add (pe_call gC hr1 rfl mgC kpC bC .nil pass0 (pa_cons (pe_dget hu (pv 2) (pv 4) (fun _ _ => rfl)) pa_nil)) (pe_callB (call_max2 rfl) rfl B.max PyProof.Rows.boot_max (pa_cons (pe_ix ix_tup (pv 6) pe_int (fun _ _ => rfl)) (pa_cons (pe_ix ix_tup (pv 7) pe_int (fun _ _ => rfl)) pa_nil)))))
        (pss_one (ps_if (PW.pt (pw_or (pt_cmp (pc_isN (pv 3))) (pw_or1 (pt_cmpR op_lt (pv 8) (pe_ix ix_tup (pv 3) pe_int (fun _ _ => rfl)) (nomark _)))))
          (pss_one (ps_set (i := 3) scBTree.nd rfl (.inl rfl) (pe_tupN (pa_cons (pv 8) (pa_cons (pe_tupN (pa_cons (pe_glob (v := .str "test") rfl mgT ⟨_, rfl⟩) (pa_cons (pe_dget hu (pv 2) (pv 4) (fun _ _ => rfl)) (pa_cons (pe_ix ix_tup (pv 6) pe_int (fun _ _ => rfl)) (pa_cons (pe_ix ix_tup (pv 7) pe_int (fun _ _ => rfl)) pa_nil))))) pa_nil)))))
          pss_nil))))))
      (pss_one (ps_dput hu (pe_fld (pv 0) rfl) (pv 1) (pv 3) rfl))))) pss_nil)
    (pss_one (ps_ret (pe_dget hu (pe_fld (pv 0) rfl) (pv 1) (fun _ _ => rfl)))), ?_⟩
  have npd : ∀ {H' : Hp}, H' p = some (.ins C dx (bf ha la d)) → ∀ {D' : List (List Nat × (Nat × T))}, DA RB H' d D' → p ≠ d := fun e _ ⟨_, e', _⟩ z => by rw [z, e'] at e; cases e
  have npd0 : p ≠ d := npd hp dd
  have big := sizeLine_big
  have g5 : g.length ≤ 5 := Nat.le_trans hg.len G.h5
  have fin : ∀ (σ : L2.St) (H' : Hp) (D' : List (List Nat × (Nat × T))) (x : Nat × T), σ[0]? = some (some (.ref p)) → σ[1]? = some (some (.ref ga)) → Kp [d] H H' → DA RB H' d D' → KnB hs lot D' → lk D' g = some x → tDGet (tFld K (tVar 0) "known") (tVar 1) σ H' Q := by
    intro σ H' D' x h0 h1 k dd' Kn' hx
    obtain ⟨o, hget, hc⟩ := dd'.dr.get (k.tup _ _ hgr)
    rcases hc with ⟨_, hno⟩ | ⟨v, x', rfl, hx', a, b, rfl, ea, eb⟩
    · rw [hx] at hno
      cases hno
    rw [hx] at hx'
    cases hx'
    obtain ⟨_, l1, l2⟩ := Kn'.en _ (lk_some hx)
    have l1 : x.1 = lw hs lot g := l1
    have l2 : wv hs lot g x.2 = some x.1 := l2
    exact ⟨_, h0, p, C, dx, _, _, rfl, k.ins hp (by simp [npd0]), Tc.cl, Tc.nK, bf_k _ _ _, _, h1, d, _, rfl, hget, q a b x.2 D' H' k dd' Kn' (by rw [← l1]; exact ea) eb (by rw [← l1]; exact l2)⟩
  obtain ⟨o, hget, hc⟩ := dd.dr.get hgr
  refine ⟨_, rfl, _, rfl, p, C, dx, _, _, rfl, hp, Tc.cl, Tc.nK, bf_k _ _ _, d, o, rfl, hget, _, rfl, ?_⟩
  rcases hc with ⟨rfl, hn⟩ | ⟨v, x, rfl, hx, _⟩
  rotate_left
  · exact fin _ H D x rfl rfl (Kp.refl _) dd Kn hx
  refine ⟨_, rfl, p, C, dx, _, _, rfl, hp, Tc.cl, Tc.nH, bf_h _ _ _, _, rfl, p, C, dx, _, _, rfl, hp, Tc.cl, Tc.nL, bf_l _ _ _, _, rfl, ha, la, ga, hs, pl, lot, g, rfl, G, hg, hh, hl, hgr, fun m F H1 hm k1 ddF PSF => ?_⟩
  have key : ∀ (σ : L2.St) (Q' : VK), σ[1]? = some (some (.ref ga)) → σ[2]? = some (some (.ref m)) → (∀ v0 fo H5, Kp [] H1 H5 → FA H5 v0 fo → (F = [] → ∃ c t, fo = some (c, t) ∧ c = lw hs lot g ∧ wv hs lot g t = some c) → (F ≠ [] → fo = none) → Q' v0 H5) →
      tIf (tTest (tOp rNeE (tVar 2) tDctN)) (tC .non) (tTupN (tCons (tC (.int 0)) (tCons (tTupN (tCons (tC (.str "left")) (tCons (tVar 1) tNil))) tNil))) σ H1 Q' := by
    intro σ Q' s1 s2 hQ
    refine ⟨_, s2, fun e H2 he k2 e2 => ?_⟩
    obtain ⟨kvs, em, dp⟩ := ddF.kp RT.stb k2 (by simp)
    refine ⟨m, e, kvs, rfl, rfl, em, e2, _, rfl, ?_⟩
    by_cases hF : F = []
    · rw [decide_eq_true (dp.nil_iff.mpr hF)]
      refine ⟨_, s1, by show 2 ≤ _; omega, fun p1 H3 hp1 k3 e3 => ⟨by show 2 ≤ _; omega, fun p2 H4 hp2 k4 e4 => ?_⟩⟩
      obtain ⟨l0, w0⟩ := tree_left PSF hF
      exact hQ _ (some (0, .left g)) H4 (k2.trans (k3.trans k4)) ⟨p2, p1, rfl, e4, ga, k4.tup _ _ e3, k4.tup _ _ (k3.tup _ _ (k2.tup _ _ (k1.tup _ _ hgr)))⟩ (fun _ => ⟨0, _, rfl, l0.symm, w0⟩) fun z => absurd hF z
    · rw [decide_eq_false fun z => hF (dp.nil_iff.mp z)]
      exact hQ _ none H2 k2 rfl (fun z => absurd z hF) fun _ => rfl
  refine key _ _ rfl rfl fun v0 fo0 H5 k5 fa5 hl0 hl1 => ?_
  obtain ⟨kvs, em5, dp5⟩ := ddF.kp RT.stb k5 (by simp)
  have k05 : Kp [d] H H5 := (k1.trans k5).up
  refine ⟨_, rfl, m, kvs, rfl, em5, fun kv hkv => ?_, fun kbs bs ls hk pm hls => ?_⟩
  · obtain ⟨i, hi, e⟩ := List.getElem_of_mem hkv
    obtain ⟨S, s, hD, hS, _⟩ := dp5.at (k := kv.1) (v := kv.2) (by rw [List.getElem?_eq_getElem hi, e])
    obtain ⟨p1, p2⟩ := PSF.en _ (List.mem_of_getElem? hD)
    have p2 : S = yes hs g s := p2
    refine ⟨S.map fun n : Nat => (n : Int), ?_, ?_⟩
    · rw [p2]
      intro z
      exact p1.2.1 (List.map_eq_nil_iff.mp z)
    · rw [hS]
      unfold ks
      rw [List.map_map]
      rfl
  obtain ⟨O, rO, hO⟩ := refs_keys (keys_refs dp5 hk) pm
  have k6 : Kp [] H5 (upd H5 ls (.lst (bs.map V.ref))) := Kp.new hls _
  have els : upd H5 ls (.lst (bs.map V.ref)) ls = some (.lst (bs.map V.ref)) := upd_same
  have ddm : DA RT (upd H5 ls (.lst (bs.map V.ref))) m F := DA.kp ⟨kvs, em5, dp5⟩ RT.stb k6 (by simp)
  have rO6 := rO.st k6.tup
  have nls : ls ≠ d := fun z => by
    obtain ⟨_, e, _⟩ := dd.kp RB.stb (k1.trans k5) (by simp)
    rw [← z, hls] at e
    cases e
  have nmd : m ≠ d := fun z => by
    obtain ⟨_, e, _⟩ := dd
    rw [← z, hm] at e
    cases e
  have dd6 := (dd.kp RB.stb (k1.trans k5) (by simp)).kp RB.stb k6 (by simp)
  have fa6 := fa5.st k6.tup
  have k06 : Kp [d] H (upd H5 ls (.lst (bs.map V.ref))) := k05.trans k6.up
  generalize upd H5 ls (.lst (bs.map V.ref)) = H6 at k6 els ddm rO6 dd6 fa6 k06
  have hh6 := hh.st k06.tup
  have hl6 := k06.tup _ _ hl
  have hgr6 := k06.tup _ _ hgr
  have hp6 := k06.ins hp (by simp [npd0])
  refine ⟨ls, rfl, ⟨_, SqL.of els⟩, ?_⟩
  refine for_list (K := K) (a := ls) (xs := bs.map V.ref) (fun i σ H' => ∃ v0 fo D' a b c e x, σ = [some (.ref p), some (.ref ga), some (.ref m), some v0, a, b, c, e, x, none] ∧ Kp [d] H6 H' ∧ DA RB H' d D' ∧ KnB hs lot D' ∧ FA H' v0 fo ∧ (F = [] → ∃ c t, fo = some (c, t) ∧ c = lw hs lot g ∧ wv hs lot g t = some c) ∧ (F ≠ [] → Bs hs lot g F O i fo))
    ⟨v0, fo0, D, none, none, none, none, none, rfl, Kp.refl _, dd6, Kn, fa6, hl0, fun z => by rw [hl1 z]; exact Bs.start⟩ (fun i σ H' _ ⟨_, _, _, _, _, _, _, _, _, k, _⟩ => SqL.of (k.lst els (by simp [nls]))) ?_ ?_
  · rintro i x σ H7 hx ⟨v0, fo, D', a, b, c, e, x', rfl, k7, dd7, Kn7, fa7, _, hBs⟩
    obtain ⟨bS, S, rfl, hOS, hbS6⟩ := rO6.at hx
    have hSF : S ∈ keys F := (hO S).mp (List.mem_of_getElem? hOS)
    have hFne : F ≠ [] := fun z => by rw [z] at hSF; exact List.not_mem_nil hSF
    obtain ⟨sT, hsT⟩ := lk_of_mem hSF
    obtain ⟨pr, eS⟩ := PSF.en _ (lk_some hsT)
    have pr : Prp hs lot g sT := pr
    have eS : S = yes hs g sT := eS
    have hBs := hBs hFne
    have hbS := k7.tup _ _ hbS6
    have hgr7 := k7.tup _ _ hgr6
    refine ⟨_, rfl, ga, rfl, ⟨_, SqT.of hgr7⟩, fun Cc hC => lcN walk_tup [] (fun j l _ => l = nvs (rst (g.take j) S)) hC (fun _ _ => rfl) (fun j l H _ k _ => SqT.of (k.tup _ _ hgr7)) ?_ ?_⟩
    · rintro j x l8 H8 H9 hj k8 e8 rfl ⟨rfl, hx⟩
      obtain ⟨n9, hn9, rfl⟩ := nvs_at hx
      have rs := rst_snoc (S := S) hn9
      refine ⟨rfl, _, rfl, _, rfl, bS, nvs S, rfl, .inr (SqT.of (k8.tup _ _ hbS)), rfl, flat_nvs _, _, rfl, ?_⟩
      show if (!inV (nv n9) (nvs S)) = true then _ else _
      rw [inV_nvs]
      by_cases z : n9 ∈ S
      · rw [decide_eq_true z]
        refine ⟨_, k8, e8, ?_⟩
        show nvs _ = nvs (rst (g.take (j + 1)) S)
        rw [rs, if_pos z, List.append_nil]
      · rw [decide_eq_false z]
        refine ⟨_, rfl, PvL.add k8 e8 ?_ fun H5 k5 => ?_⟩
        · rw [nvs_length]
          have := rst_len (g.take j) S
          rw [List.length_take] at this
          omega
        · rw [rs, if_neg z, nvs_app]
          rfl
    · rintro l8 H8 k8 e8 rfl
      refine ⟨Cc, _, rfl, e8, fun qr H9 hqr k9 e9 => ?_⟩
      rw [nvs_length, List.take_length, eS, rst_yes] at e9
      have k79 : Kp [] H7 H9 := k8.trans k9
      have k69 : Kp [d] H6 H9 := k7.trans k79.up
      have dd9 := dd7.kp RB.stb k79 (by simp)
      have hbS9 : TN H9 bS (yes hs g sT) := by
        rw [← eS]
        exact k79.tup _ _ hbS
      have ly := pr.yes_lt
      have ln := pr.no_lt
      refine ⟨_, rfl, p, dx, _, rfl, k69.ins hp6 (by simp [npd0]), bf_t _ _ _, _, rfl, p, bS, ha, la, d, dx, hs, pl, lot, yes hs g sT, D', rfl, k69.ins hp6 (by simp [npd0]), G, hg.sub (yes_sub _ _ _), by omega, hh6.st k69.tup, k69.tup _ _ hl6, hbS9, dd9, Kn7, fun r1 b1 tr1 D1 H10 k10 dd10 Kn10 er1 et1 ew1 => ?_⟩
      have k610 := k69.trans k10
      refine ⟨_, rfl, p, dx, _, rfl, k610.ins hp6 (by simp [npd0]), bf_t _ _ _, _, rfl, p, qr, ha, la, d, dx, hs, pl, lot, no hs g sT, D1, rfl, k610.ins hp6 (by simp [npd0]), G, hg.sub (no_sub _ _ _), by omega, hh6.st k610.tup, k610.tup _ _ hl6, k10.tup _ _ e9, dd10, Kn10, fun r2 b2 tr2 D2 H11 k11 dd11 Kn11 er2 et2 ew2 => ?_⟩
      have k611 := k610.trans k11
      have k711 : Kp [d] H7 H11 := k79.up.trans (k10.trans k11)
      have ddm11 : DA RT H11 m F := ddm.kp RT.stb k611 (by simp [nmd])
      have hbS11 := k711.tup _ _ hbS
      obtain ⟨om, hgm, hcm⟩ := ddm11.dr.get hbS11
      rcases hcm with ⟨_, hno⟩ | ⟨vm, xm, rfl, hxm, ta, rfl, hta⟩
      · rw [hsT] at hno
        cases hno
      rw [hsT] at hxm
      cases hxm
      have er1' := k11.tup _ _ er1
      have et1' := et1.st k11.tup
      refine ⟨_, _, rfl, _, rfl, _, rfl, m, _, rfl, hgm, ta, sT, rfl, hta, _, rfl, r1, _, 0, _, rfl, rfl, SqT.of er1', rfl, _, rfl, r2, _, 0, _, rfl, rfl, SqT.of er2, rfl, _, _, rfl, _, _, rfl, rfl, ?_⟩
      have ecst : V.int (((sT.w.length + 2 : Nat) : Int) + (if ((lw hs lot (no hs g sT) : Nat) : Int) > ((lw hs lot (yes hs g sT) : Nat) : Int) then ((lw hs lot (no hs g sT) : Nat) : Int) else ((lw hs lot (yes hs g sT) : Nat) : Int))) = nv (cst hs lot g sT) := by
        have z := max_nv (lw hs lot (yes hs g sT)) (lw hs lot (no hs g sT))
        injection z with z
        unfold nv cst
        rw [z]
        congr 1
      refine Eq.subst (motive := fun z => gName 8 z _ _ _) ecst.symm ?_
      have mk : ∀ σ4 H12, σ4 = [some (.ref p), some (.ref ga), some (.ref m), some v0, some (.ref bS), some (.ref qr), some (.ref r1), some (.ref r2), some (nv (cst hs lot g sT)), none] → H12 = H11 → (∀ v t, fo = some (v, t) → cst hs lot g sT < v) →
          tTupN (tCons (tVar 8) (tCons (tTupN (tCons (tC (.str "test")) (tCons (tDGet (tVar 2) (tVar 4)) (tCons (tOp (rIxT K) (tVar 6) (tC (.int 1))) (tCons (tOp (rIxT K) (tVar 7) (tC (.int 1))) tNil))))) tNil)) σ4 H12 fun v H13 => ∃ v0 fo D' a b c e x, σ4.set 3 (some v) = [some (.ref p), some (.ref ga), some (.ref m), some v0, a, b, c, e, x, none] ∧ Kp [d] H6 H13 ∧ DA RB H13 d D' ∧ KnB hs lot D' ∧ FA H13 v0 fo ∧ (F = [] → ∃ c t, fo = some (c, t) ∧ c = lw hs lot g ∧ wv hs lot g t = some c) ∧ (F ≠ [] → Bs hs lot g F O (i + 1) fo) := by
        rintro _ _ rfl rfl hlt
        refine ⟨_, rfl, _, rfl, _, rfl, m, _, rfl, hgm, _, rfl, r1, _, 1, _, rfl, rfl, SqT.of er1', rfl, _, rfl, r2, _, 1, _, rfl, rfl, SqT.of er2, rfl, by show 4 ≤ _; omega, fun q1 H13 hq1 k13 e13 => ⟨by show 2 ≤ _; omega, fun q2 H14 hq2 k14 e14 => ?_⟩⟩
        have k1114 := k13.trans k14
        exact ⟨_, some (cst hs lot g sT, .test sT tr1 tr2), D2, _, _, _, _, _, rfl, k611.trans k1114.up, dd11.kp RB.stb k1114 (by simp), Kn11, ⟨q2, q1, rfl, e14, ta, b1, b2, k14.tup _ _ e13, hta.st k1114.tup, et1'.st k1114.tup, et2.st k1114.tup⟩, fun z => absurd z hFne, fun _ => hBs.take PSF hOS hsT ew1 ew2 hlt⟩
      refine ⟨_, rfl, _, rfl, ?_⟩
      cases fo with
      | none =>
        have ev : v0 = .non := fa7
        subst ev
        exact mk _ _ rfl rfl fun _ _ z => nomatch z
      | some y =>
        obtain ⟨fa, fb, ev, efa, efb⟩ := fa7
        subst ev
        refine ⟨_, rfl, _, rfl, fa, _, 0, _, rfl, rfl, SqT.of (k711.tup _ _ efa), rfl, _, _, rfl, rfl, _, rfl, ite2 (fun z => ?_) (fun z => ?_)⟩
        · have z := of_decide_eq_true z
          exact mk _ _ rfl rfl fun v t ez => by
            cases ez
            show _ < v
            have z : ((cst hs lot g sT : Nat) : Int) < ((v : Nat) : Int) := z
            omega
        · have z : ¬ ((cst hs lot g sT : Nat) : Int) < ((y.1 : Nat) : Int) := fun q => z (decide_eq_true q)
          exact ⟨_, some y, D2, _, _, _, _, _, rfl, k611, dd11, Kn11, ⟨fa, fb, rfl, k711.tup _ _ efa, efb.st k711.tup⟩, fun z => absurd z hFne, fun _ => hBs.keep (v := y.1) (t := y.2) hOS hsT (by omega)⟩
  · rintro σ H7 ⟨v0, fo, D', a, b, c, e, x', rfl, k7, dd7, Kn7, fa7, hl7, hBs⟩
    rw [List.length_map, rO6.length] at hBs
    have res : ∃ v t, fo = some (v, t) ∧ v = lw hs lot g ∧ wv hs lot g t = some v := by
      by_cases hF : F = []
      · exact hl7 hF
      · exact (hBs hF).fin PSF hF hO
    obtain ⟨v, t, rfl, rfl, hw⟩ := res
    have k07 := k06.trans k7
    obtain ⟨H8, hput, k8, dd8⟩ := dd7.put RB.stb (k07.tup _ _ hgr) (show RB H7 v0 (lw hs lot g, t) from fa7) (by
      have := kn_few G.h5 Kn7.nd fun e he => (Kn7.en e he).1
      omega)
    have Kn8 := Kn7.put hg hw
    refine ⟨_, rfl, _, rfl, p, C, dx, _, _, rfl, k07.ins hp (by simp [npd0]), Tc.cl, Tc.nK, bf_k _ _ _, _, rfl, d, H8, rfl, hput, ?_⟩
    exact fin _ H8 _ _ rfl rfl (k07.trans k8) dd8 Kn8 (lk_mem Kn8.nd pt_mem)
end
end Rs


set_option Elab.async false
set_option linter.all false
set_option maxRecDepth 100000
set_option maxHeartbeats 4000000
namespace Rs
open PySem PySem.Spec PyProof.Rows L2
abbrev sBest : Stmt := topS 23
abbrev sLeastW : Stmt := topS 24
abbrev sLeastT : Stmt := topS 25
def rLen (K : PySem.W.Frag) : List V → Hp → VK → Prop := fun xs H Q => ∃ p ys, xs = [.ref p] ∧ (SqL K H p ys ∨ SqT K H p ys) ∧ Q (.int ys.length) H
/-- all shelves -/
abbrev allG (hs : HabL) : List Nat := List.range hs.length
theorem allG_grp (hs : HabL) : Grp hs (allG hs) := List.Sublist.refl _
def spBest : Sp := fun vs H Q _ => ∃ ha la hs pl lot, vs = [.ref ha, .ref la] ∧ Good hs pl lot ∧ HabsAt H ha hs ∧ TN H la lot ∧
  ∀ r b t H', Kp [] H H' → H' r = some (.tup [nv (lw hs lot (allG hs)), .ref b]) → TreeAt H' b t → wv hs lot (allG hs) t = some (lw hs lot (allG hs)) → Q (.ref r) H'
def spLW (P1 P2 : Addr) : Sp := fun vs H Q _ => ∃ ha la hs pl lot, vs = [.ref ha, .ref la] ∧ Good hs pl lot ∧ HabsAt H ha hs ∧ TN H la lot ∧ GxR.TabG H P1 ∧ GxR.TabG H P2 ∧
  ∀ H', Kp [] H H' → Q (nv (lw hs lot (allG hs))) H'
def spLT (P1 P2 : Addr) : Sp := fun vs H Q _ => ∃ ha la hs pl lot, vs = [.ref ha, .ref la] ∧ Good hs pl lot ∧ HabsAt H ha hs ∧ TN H la lot ∧ GxR.TabG H P1 ∧ GxR.TabG H P2 ∧
  ∀ b t H', Kp [] H H' → TreeAt H' b t → wv hs lot (allG hs) t = some (lw hs lot (allG hs)) → Q (.ref b) H'
section
variable {P : Program} {w : World} {K : PySem.W.Frag} {mg : Str → Option Value} {base : Heap} {f : Addr} {fd : FuncData}
theorem btree_none {C : Addr} : FnOk P w K mg base CX0 2 f fd ["self", "group"] (spBTree C 0) := by
  have no : ∀ vs H Q E, ¬ spBTree C 0 vs H Q E := fun vs H Q E h => by
    obtain ⟨p, ga, ha, la, d, dx, hs, pl, lot, g, D, _, _, _, _, h, _⟩ := h
    omega
  exact ⟨fun vs H Q E h => absurd h (no vs H Q E), fun A outer s H args us vs Q E _ _ _ _ h => absurd h (no vs H Q E)⟩
theorem btree_all {C : Addr} (F : Fun K "tree" "Best.tree" sBTree f fd) (Tc : BC K mg C) (B : Bi mg) (N : Cn mg) (mT : Meth K C "tree" f) (bT : Binds K fd ["self", "group"] [])
    (cP : Cl P w K mg base CX0 2 "partings" ["habits", "lot", "group"] spPart) (cT : Cl P w K mg base CX0 1 "touches_of" ["test"] spTouch) : ∀ n, FnOk P w K mg base CX0 (n + 2) f fd ["self", "group"] (spBTree C n)
  | 0 => btree_none
  | n + 1 => ok_btree F Tc B N mT bT cP cT (btree_all F Tc B N mT bT cP cT n)
theorem scBest : FnScope ["habits", "lot"] ["habits", "lot"] (defScope sBest) := ⟨rfl, rfl, rfl, by decide +kernel, rfl, by decide +kernel, by decide +kernel⟩
theorem ok_best {C fI fT : Addr} {fdI fdT : FuncData} (F : Fun K "best_tree" "best_tree" sBest f fd) (B : Bi mg) (Tc : BC K mg C) (M : Mk K C fI) (GI : FnOk P w K mg base CX0 1 fI fdI ["self", "habits", "lot"] (spBInit C)) (bI : Binds K fdI ["self", "habits", "lot"] [])
    (mT : Meth K C "tree" fT) (GT : FnOk P w K mg base CX0 8 fT fdT ["self", "group"] (spBTree C 6)) (bT : Binds K fdT ["self", "group"] []) : FnOk P w K mg base CX0 9 f fd ["habits", "lot"] spBest := by
  refine F.ok scBest (fun vs H Q E h => ?_) (fun cdv A outer s H vs Q E hr h => ?_)
  · obtain ⟨ha, la, hs, pl, lot, rfl, _⟩ := h
    rfl
  obtain ⟨ha, la, hs, pl, lot, rfl, G, hh, hl, q⟩ := h
  refine ⟨_, pss_one (ps_ret (pe_meth (pe_make M GI (hr.mono (by decide)) rfl Tc.mgC bI .nil pass0 (pa_cons (pv 0) (pa_cons (pv 1) pa_nil))) Tc.cl mT GT hr bT .nil pass0 (pa_cons (pe_tupR1 rfl rfl B.tuple rfl B.range (pe_callB call_len_seq rfl B.len boot_len (pa_cons (pv 0) pa_nil))) pa_nil))), ?_⟩
  have h5 := G.h5
  have big := sizeLine_big
  refine ⟨_, rfl, _, rfl, fun x dx hx hdx nx => ?_⟩
  have k1 : Kp [] H (upd (upd H dx (.own x)) x (.ins C dx [])) := (Kp.new hdx _).trans (Kp.new (by rw [upd_ne nx.symm]; exact hx) _)
  have e1 : upd (upd H dx (.own x)) x (.ins C dx []) x = some (.ins C dx []) := upd_same
  generalize upd (upd H dx (.own x)) x (.ins C dx []) = H1 at k1 e1
  refine ⟨x, ha, la, dx, rfl, e1, fun d H2 hd k2 e2 e3 => ⟨rfl, ?_⟩⟩
  have kx : Kp [] H H2 := (k1.up.trans k2).drop hx
  obtain ⟨xs, ex, hlx, _⟩ := hh.at
  refine ⟨x, dx, _, rfl, e2, bf_t _ _ _, _, rfl, ha, xs, rfl, .inr (SqT.of (kx.tup _ _ ex)), _, rfl, ?_, fun ga H3 hga k3 e4 => ?_⟩
  · rw [hlx]
    refine ⟨?_, ?_, ?_, ?_, ?_⟩ <;> omega
  rw [hlx, rgV_nvs] at e4
  have kx3 := kx.trans k3
  refine ⟨x, ga, ha, la, d, dx, hs, pl, lot, allG hs, [], rfl, k3.ins e2 (by simp), G, allG_grp hs, by rw [List.length_range]; omega, hh.st kx3.tup, kx3.tup _ _ hl, e4, ⟨[], k3.dct e3 (by simp), .nil⟩, ⟨List.nodup_nil, fun _ h => (List.not_mem_nil h).elim⟩, fun r b t D' H4 k4 _ _ er et ew => ?_⟩
  have kd : Kp [d] H H4 := kx3.up.trans k4
  exact q r b t H4 (kd.drop (k1.dom _ hd)) er et ew
theorem scLeastW : FnScope ["habits", "lot"] ["habits", "lot"] (defScope sLeastW) := ⟨rfl, rfl, rfl, by decide +kernel, rfl, by decide +kernel, by decide +kernel⟩
theorem scLeastT : FnScope ["habits", "lot"] ["habits", "lot"] (defScope sLeastT) := ⟨rfl, rfl, rfl, by decide +kernel, rfl, by decide +kernel, by decide +kernel⟩
/-- habits[0] is as long as the places -/
theorem first_at {H : Hp} {ha : Addr} {hs : HabL} {pl : Nat} {lot : List Nat} (G : Good hs pl lot) (hh : HabsAt H ha hs) : ∃ zs b ys, H ha = some (.tup zs) ∧ atI zs (0 : Int) = some (.ref b) ∧ H b = some (.tup ys) ∧ ys.length = pl := by
  obtain ⟨xs, e1, _, f1⟩ := hh.at
  have h1 := G.h1
  obtain ⟨b, z, hb⟩ := f1 0 _ (List.getElem?_eq_getElem (by omega : 0 < hs.length))
  obtain ⟨ys, e2, l2, _⟩ := hb.at
  exact ⟨xs, b, ys, e1, atI_nat z, e2, by rw [l2, (G.hab _ (List.getElem_mem (by omega : 0 < hs.length))).1]⟩
theorem ok_leastW {P1 P2 : Addr} (F : Fun K "least_worst" "least_worst" sLeastW f fd) (cM : Cl P w K mg base CX0 3 "need_many" ["value"] (spNeedM P1)) (cL : Cl P w K mg base CX0 1 "need_lot" ["habit", "value"] (spNeedL P2))
    (cB : Cl P w K mg base CX0 9 "best_tree" ["habits", "lot"] spBest) : FnOk P w K mg base CX0 10 f fd ["habits", "lot"] (spLW P1 P2) := by
  obtain ⟨fM, fdM, gM, mgM, kpM, bM⟩ := cM
  obtain ⟨fL, fdL, gL, mgL, kpL, bL⟩ := cL
  obtain ⟨fB, fdB, gB, mgB, kpB, bB⟩ := cB
  refine F.ok scLeastW (fun vs H Q E h => ?_) (fun cdv A outer s H vs Q E hr h => ?_)
  · obtain ⟨ha, la, hs, pl, lot, rfl, _⟩ := h
    rfl
  obtain ⟨ha, la, hs, pl, lot, rfl, G, hh, hl, t1, t2, q⟩ := h
  refine ⟨_, pss_cons (ps_expr (pe_call gM (hr.mono (by decide)) rfl mgM kpM bM .nil pass0 (pa_cons (pv 0) pa_nil)))
    (pss_cons (ps_expr (pe_call gL (hr.mono (by decide)) rfl mgL kpL bL .nil pass0 (pa_cons (pe_ix ix_tup (pv 0) pe_int (fun _ _ => rfl)) (pa_cons (pv 1) pa_nil))))
    (pss_one (ps_ret (pe_ix ix_tup (pe_call gB hr rfl mgB kpB bB .nil pass0 (pa_cons (pv 0) (pa_cons (pv 1) pa_nil))) pe_int (fun _ _ => rfl))))), ?_⟩
  obtain ⟨zs, b, ys, e1, e2, e3, ly⟩ := first_at G hh
  refine ⟨_, rfl, ha, hs, pl, lot, rfl, hh, G, t1, fun H1 k1 => ?_⟩
  refine ⟨_, rfl, ha, zs, _, _, rfl, rfl, SqT.of (k1.tup _ _ e1), e2, _, rfl, b, la, ys, lot, rfl, k1.tup _ _ e3, k1.tup _ _ hl, G.ne, G.asc, by rw [ly]; exact G.lt, by rw [ly]; exact G.p5, k1.tab _ t2, fun H2 k2 => ?_⟩
  have k12 := k1.trans k2
  refine ⟨_, rfl, _, rfl, ha, la, hs, pl, lot, rfl, G, hh.st k12.tup, k12.tup _ _ hl, fun r b t H3 k3 er et ew => ?_⟩
  exact ⟨r, _, 0, _, rfl, rfl, SqT.of er, rfl, q H3 (k12.trans k3)⟩
theorem ok_leastT {P1 P2 : Addr} (F : Fun K "least_tree" "least_tree" sLeastT f fd) (cM : Cl P w K mg base CX0 3 "need_many" ["value"] (spNeedM P1)) (cL : Cl P w K mg base CX0 1 "need_lot" ["habit", "value"] (spNeedL P2))
    (cB : Cl P w K mg base CX0 9 "best_tree" ["habits", "lot"] spBest) : FnOk P w K mg base CX0 10 f fd ["habits", "lot"] (spLT P1 P2) := by
  obtain ⟨fM, fdM, gM, mgM, kpM, bM⟩ := cM
  obtain ⟨fL, fdL, gL, mgL, kpL, bL⟩ := cL
  obtain ⟨fB, fdB, gB, mgB, kpB, bB⟩ := cB
  refine F.ok scLeastT (fun vs H Q E h => ?_) (fun cdv A outer s H vs Q E hr h => ?_)
  · obtain ⟨ha, la, hs, pl, lot, rfl, _⟩ := h
    rfl
  obtain ⟨ha, la, hs, pl, lot, rfl, G, hh, hl, t1, t2, q⟩ := h
  refine ⟨_, pss_cons (ps_expr (pe_call gM (hr.mono (by decide)) rfl mgM kpM bM .nil pass0 (pa_cons (pv 0) pa_nil)))
    (pss_cons (ps_expr (pe_call gL (hr.mono (by decide)) rfl mgL kpL bL .nil pass0 (pa_cons (pe_ix ix_tup (pv 0) pe_int (fun _ _ => rfl)) (pa_cons (pv 1) pa_nil))))
    (pss_one (ps_ret (pe_ix ix_tup (pe_call gB hr rfl mgB kpB bB .nil pass0 (pa_cons (pv 0) (pa_cons (pv 1) pa_nil))) pe_int (fun _ _ => rfl))))), ?_⟩
  obtain ⟨zs, b, ys, e1, e2, e3, ly⟩ := first_at G hh
  refine ⟨_, rfl, ha, hs, pl, lot, rfl, hh, G, t1, fun H1 k1 => ?_⟩
  refine ⟨_, rfl, ha, zs, _, _, rfl, rfl, SqT.of (k1.tup _ _ e1), e2, _, rfl, b, la, ys, lot, rfl, k1.tup _ _ e3, k1.tup _ _ hl, G.ne, G.asc, by rw [ly]; exact G.lt, by rw [ly]; exact G.p5, k1.tab _ t2, fun H2 k2 => ?_⟩
  have k12 := k1.trans k2
  refine ⟨_, rfl, _, rfl, ha, la, hs, pl, lot, rfl, G, hh.st k12.tup, k12.tup _ _ hl, fun r b t H3 k3 er et ew => ?_⟩
  exact ⟨r, _, 1, _, rfl, rfl, SqT.of er, rfl, q b t H3 (k12.trans k3) et ew⟩
end
end Rs


set_option Elab.async false
set_option linter.all false
set_option maxRecDepth 100000
set_option maxHeartbeats 4000000
/-! the least worst number is small: some short test parts every group that can be parted -/
namespace Rs
open Classical
section
variable {hs : HabL} {pl : Nat} {lot g : List Nat}
theorem mk_app (p : Nat) (u v : List Nat) (i : Nat) : mk hs p (u ++ v) i = v.foldl (fun m q => stp hs i q m) (mk hs p u i) := by
  unfold mk
  rw [List.foldl_append]
theorem yes_congr {t s : Ts} (h : ∀ i ∈ g, rd hs t i = rd hs s i) : yes hs g t = yes hs g s := List.filter_congr h
theorem no_congr {t s : Ts} (h : ∀ i ∈ g, rd hs t i = rd hs s i) : no hs g t = no hs g s := List.filter_congr fun i hi => by rw [h i hi]
theorem prp_congr {t s : Ts} (ok : s.ok lot) (h : ∀ i ∈ g, rd hs t i = rd hs s i) (p : Prp hs lot g t) : Prp hs lot g s :=
  ⟨ok, by rw [← yes_congr h]; exact p.2.1, by rw [← no_congr h]; exact p.2.2⟩
theorem marks_at {p : Nat} {u v : List Nat} (h : marks hs g p u = marks hs g p v) {i : Nat} (hi : i ∈ g) : mk hs p u i = mk hs p v i := by
  unfold marks at h
  exact List.map_inj_left.mp h i hi
theorem short (G : Good hs pl lot) (hg : Grp hs g) (h : ∃ t, Prp hs lot g t) : ∃ t, Prp hs lot g t ∧ t.w.length ≤ 3125 := by
  obtain ⟨n, ⟨t, ht, hn⟩, least⟩ := least_ex (P := fun n => ∃ t, Prp hs lot g t ∧ t.w.length = n) (let ⟨t, ht⟩ := h; ⟨_, t, ht, rfl⟩)
  refine ⟨t, ht, ?_⟩
  have nd : ((List.range (t.w.length + 1)).map fun i => marks hs g t.p (t.w.take i)).Nodup := by
    refine List.pairwise_map.mpr (List.pairwise_lt_range.imp_of_mem fun {i j} hi hj hij e => ?_)
    have hi := List.mem_range.mp hi
    have hj := List.mem_range.mp hj
    have ok : (⟨t.p, t.w.take i ++ t.w.drop j, t.r⟩ : Ts).ok lot := ⟨ht.1.1, fun q hq => by
      rcases List.mem_append.mp hq with z | z
      · exact ht.1.2.1 q (List.mem_of_mem_take z)
      · exact ht.1.2.1 q (List.mem_of_mem_drop z), ht.1.2.2⟩
    have same : ∀ k ∈ g, rd hs t k = rd hs ⟨t.p, t.w.take i ++ t.w.drop j, t.r⟩ k := fun k hk => by
      unfold rd
      have e1 : mk hs t.p t.w k = mk hs t.p (t.w.take j ++ t.w.drop j) k := by rw [List.take_append_drop]
      have e2 : mk hs t.p (t.w.take i ++ t.w.drop j) k = mk hs t.p t.w k := by
        rw [e1, mk_app, mk_app, marks_at e hk]
      show decide (mk hs t.p t.w k = t.r) = decide (mk hs t.p (t.w.take i ++ t.w.drop j) k = t.r)
      rw [e2]
    have := least _ ⟨_, prp_congr ok same ht, rfl⟩
    have l1 : (t.w.take i ++ t.w.drop j).length = i + (t.w.length - j) := by
      rw [List.length_append, List.length_take, List.length_drop]
      omega
    have l2 : n ≤ (t.w.take i ++ t.w.drop j).length := this
    omega
  have := few_M G hg nd fun m hm => by
    obtain ⟨i, hi, e⟩ := List.mem_map.mp hm
    exact ⟨t.p, t.w.take i, ht.1.1, fun q hq => ht.1.2.1 q (List.mem_of_mem_take hq), e.symm⟩
  rw [List.length_map, List.length_range] at this
  omega
theorem lw_le_cst {t : Ts} (h : Prp hs lot g t) : lw hs lot g ≤ cst hs lot g t := by
  obtain ⟨n, hn, m⟩ := least_ex (P := fun v => ∃ t, Prp hs lot g t ∧ v = cst hs lot g t) ⟨_, t, h, rfl⟩
  rw [lw_eq, mn_of hn m]
  exact m _ ⟨t, h, rfl⟩
theorem lw_small (G : Good hs pl lot) : ∀ (n : Nat) (g : List Nat), g.length ≤ n → Grp hs g → lw hs lot g ≤ 4000 * n
  | 0, g, h, hg => by
    have e : g = [] := List.eq_nil_of_length_eq_zero (by omega)
    subst e
    rw [lw_none fun ⟨t, p⟩ => no_nil p]
    exact Nat.zero_le _
  | n + 1, g, h, hg => by
    by_cases e : ∃ t, Prp hs lot g t
    · obtain ⟨t, ht, hl⟩ := short G hg e
      have a := lw_small G n (yes hs g t) (by have := ht.yes_lt; omega) (hg.sub (yes_sub _ _ _))
      have b := lw_small G n (no hs g t) (by have := ht.no_lt; omega) (hg.sub (no_sub _ _ _))
      have c := lw_le_cst ht
      unfold cst at c
      omega
    · rw [lw_none e]
      exact Nat.zero_le _
theorem lw_small5 (G : Good hs pl lot) (hg : Grp hs g) : lw hs lot g ≤ 20000 := lw_small G 5 g (Nat.le_trans hg.len G.h5) hg
end
/-- how deep, how long the words -/
def T.dp : T → Nat
  | .left _ => 2
  | .test _ a b => 1 + max 2 (max a.dp b.dp)
def T.wl : T → Nat
  | .left _ => 0
  | .test t a b => max t.w.length (max a.wl b.wl)
theorem wv_dp {hs : HabL} {lot : List Nat} : ∀ {t : T} {g : List Nat} {v : Nat}, wv hs lot g t = some v → t.dp ≤ g.length + 2 ∧ t.wl ≤ v
  | .left g', g, v, h => ⟨by show 2 ≤ _; omega, Nat.zero_le _⟩
  | .test t a b, g, v, h => by
    obtain ⟨p, x, y, h1, h2, e⟩ := wv_test_some h
    obtain ⟨a1, a2⟩ := wv_dp h1
    obtain ⟨b1, b2⟩ := wv_dp h2
    have l1 := p.yes_lt
    have l2 := p.no_lt
    constructor
    · show 1 + max 2 (max a.dp b.dp) ≤ _
      omega
    · show max t.w.length (max a.wl b.wl) ≤ v
      omega
end Rs


set_option Elab.async false
set_option linter.all false
set_option maxRecDepth 100000
set_option maxHeartbeats 4000000
namespace Rs
open PySem PySem.Spec PyProof.Rows L2
def spNum : Sp := fun vs H Q _ => ∃ v lo hi : Int, vs = [.int v, .int lo, .int hi] ∧ Q (.bl (decide (lo ≤ v ∧ v ≤ hi))) H
abbrev sIsTest : Stmt := topS 26
def okb (lot : List Nat) (t : Ts) : Bool := (t.p :: (t.w ++ [t.r])).all fun x => decide (x ∈ lot)
theorem okb_iff {lot : List Nat} {t : Ts} : okb lot t = true ↔ t.ok lot := by
  unfold okb Ts.ok
  simp [List.all_eq_true]
def spIsTest : Sp := fun vs H Q _ => ∃ ha la ta hs pl lot, vs = [.ref ha, .ref la, .ref ta] ∧ Good hs pl lot ∧ HabsAt H ha hs ∧ TN H la lot ∧
  ((∃ t, TestAt H ta t ∧ t.w.length ≤ 90000 ∧ ∀ H', Kp [] H H' → Q (.bl (okb lot t)) H') ∨ (∃ x y l zs, H ta = some (.tup [x, .ref l, y]) ∧ H l = some (.lst zs) ∧ Q (.bl false) H))
def nlD (ns : List Nat) : PyData := .list (ns.map fun n : Nat => .int n)
theorem nlD_shaped (ns : List Nat) : SeqAt.shaped (nlD ns) = true := by
  have h1 := nD_lay ns
  have h2 := nD_depth ns
  unfold nD at h1 h2
  refine shaped_of ?_ ?_
  · unfold nlD
    simp only [PyData.canLay0] at h1 ⊢
    exact h1
  · unfold nlD
    simp only [PyData.depth] at h2 ⊢
    omega
theorem nlD_nil (L : List Nat) : PyData.eqv (nlD L) (.list []) = decide (L = []) := by
  unfold nlD
  cases L with
  | nil => simp [PyData.eqv, PyData.eqvAll]
  | cons m L => simp [PyData.eqv, PyData.eqvAll]
theorem dp_nl {K : PySem.W.Frag} {H : Hp} {l : Addr} {ns : List Nat} (e : H l = some (.lst (nvs ns))) : Dp K H (.ref l) (nlD ns) := .lst (SqL.of e) (dpAll_nvs ns)
section
variable {P : Program} {w : World} {K : PySem.W.Frag} {mg : Str → Option Value} {base : Heap} {f : Addr} {fd : FuncData}
theorem scNum : FnScope ["value", "low", "high"] ["value", "low", "high"] (defScope sNum) := ⟨rfl, rfl, rfl, by decide +kernel, rfl, by decide +kernel, by decide +kernel⟩
theorem ok_num (F : Fun K "is_number" "is_number" sNum f fd) (B : Bi mg) : FnOk P w K mg base CX0 1 f fd ["value", "low", "high"] spNum := by
  refine F.ok scNum (fun vs H Q E h => ?_) (fun cdv A outer s H vs Q E hr h => ?_)
  · obtain ⟨v, lo, hi, rfl, _⟩ := h
    rfl
  obtain ⟨v, lo, hi, rfl, q⟩ := h
  refine ⟨_, pss_one (ps_ret (pe_and (pe_callB call_isi rfl B.isi boot_isinstance (pa_cons (pv 0) (pa_cons (pe_bltn (v := .ty "int") rfl B.int PyProof.Rows.boot_int rfl) pa_nil)))
    (pe_and (pe_not (pe_callB call_isi rfl B.isi boot_isinstance (pa_cons (pv 0) (pa_cons (pe_bltn (v := .ty "bool") rfl B.bool PyProof.Rows.boot_bool rfl) pa_nil))))
      (pe_one (pe_chain op_le op_le (pv 1) (pv 0) (pv 2)))))), ?_⟩
  refine ⟨_, rfl, _, _, _, _, _, rfl, .ty _, .base (.int v), kit_ty (b := "int") (r := true) (by decide +kernel), _, rfl, ?_⟩
  refine ⟨_, rfl, _, _, _, _, _, rfl, .ty _, .base (.int v), kit_ty (b := "bool") (r := false) (by decide +kernel), _, rfl, _, rfl, ?_⟩
  refine ⟨_, rfl, _, rfl, _, _, rfl, rfl, _, rfl, ite2 (fun z => ?_) (fun z => ?_)⟩
  · have z := of_decide_eq_true z
    refine ⟨_, rfl, _, _, rfl, rfl, ?_⟩
    have e : decide (lo ≤ v ∧ v ≤ hi) = decide (v ≤ hi) := by
      by_cases y : v ≤ hi
      · rw [decide_eq_true y, decide_eq_true ⟨z, y⟩]
      · rw [decide_eq_false y, decide_eq_false fun q => y q.2]
    rw [e] at q
    exact q
  · have z : ¬ lo ≤ v := fun q => z (decide_eq_true q)
    rw [decide_eq_false fun q => z q.1] at q
    exact q
abbrev nIsTest : List Str := ["habits", "lot", "value", "places", "place"]
theorem scIsTest : FnScope nIsTest ["habits", "lot", "value"] (defScope sIsTest) := ⟨rfl, rfl, rfl, by decide +kernel, rfl, by decide +kernel, by decide +kernel⟩
theorem filt_snoc {g : List Nat} {p : Nat → Bool} {i n : Nat} (h : g[i]? = some n) : (g.take (i + 1)).filter p = (g.take i).filter p ++ (if p n = true then [n] else []) := by
  rw [take_snoc h, List.filter_append]
  congr 1
  by_cases e : p n = true
  · rw [if_pos e, List.filter_cons_of_pos e]
    rfl
  · rw [if_neg e, List.filter_cons_of_neg e]
    rfl
theorem ok_isTest (F : Fun K "is_test_of" "is_test_of" sIsTest f fd) (B : Bi mg) (cN : Cl P w K mg base CX0 1 "is_number" ["value", "low", "high"] spNum) : FnOk P w K mg base CX0 2 f fd ["habits", "lot", "value"] spIsTest := by
  obtain ⟨fN, fdN, gN, mgN, kpN, bN⟩ := cN
  refine F.ok scIsTest (fun vs H Q E h => ?_) (fun cdv A outer s H vs Q E hr h => ?_)
  · obtain ⟨ha, la, ta, hs, pl, lot, rfl, _⟩ := h
    rfl
  obtain ⟨ha, la, ta, hs, pl, lot, rfl, G, hh, hl, hv⟩ := h
  have big := sizeLine_big
  refine ⟨_, pss_cons (ps_if (PW.pt (pw_or (pt_not (pt_val (pe_callB call_isi rfl B.isi boot_isinstance (pa_cons (pv 2) (pa_cons (pe_bltn (v := .ty "tuple") rfl B.tuple boot_tuple rfl) pa_nil)))))
        (pw_or (pt_cmpR op_ne (pe_callB call_len_seq rfl B.len boot_len (pa_cons (pv 2) pa_nil)) pe_int (nomark _))
          (pw_or1 (pt_not (pt_val (pe_callB call_isi rfl B.isi boot_isinstance (pa_cons (pe_ix ix_tup (pv 2) pe_int (fun _ _ => rfl)) (pa_cons (pe_bltn (v := .ty "tuple") rfl B.tuple boot_tuple rfl) pa_nil)))))))))
      (pss_one (ps_ret pe_bl)) pss_nil)
    (pss_cons (ps_set (i := 3) scIsTest.nd rfl (.inl rfl) (pe_op op_catTN (pe_op op_catTN (pe_tupN (pa_cons (pe_ix ix_tup (pv 2) pe_int (fun _ _ => rfl)) pa_nil)) (pe_ix ix_tup (pv 2) pe_int (fun _ _ => rfl))) (pe_tupN (pa_cons (pe_ix ix_tup (pv 2) pe_int (fun _ _ => rfl)) pa_nil))))
    (pss_one (ps_ret (pe_cmpR (op_eqD hr.units) (pe_lc (own := [("place", 4)]) (g := gName 4) (tt := tOr (tNot (tB (tCall spNum [] E0 (tCons (tVar 4) (tCons (tC (.int 0)) (tCons (tOp (rI0 fun i j => .int (i - j)) (tCB (rLen K) (tCons (tOp (rIxT K) (tVar 0) (tC (.int 0))) tNil)) (tC (.int 1))) tNil)))))) (tTest (tOp (rIn K true) (tVar 4) (tVar 1)))) rfl scIsTest.nd (pi_tup (pv 3)) (blkOk_by (own := [("place", 4)]) (N := nIsTest) (sc := defScope sIsTest) (by decide +kernel))
        (fun _ _ _ _ _ => pg_name (i := 4) scIsTest.nd rfl (.inl rfl))
        (fun _ _ _ _ _ => pts_one (PW.pt (pw_or (pt_not (pt_val (pe_call gN hr rfl mgN kpN bN .nil pass0 (pa_cons (pv 4) (pa_cons pe_int (pa_cons (pe_op op_sub (pe_callB (r := rLen K) call_len_seq rfl B.len boot_len (pa_cons (pe_ix (r := rIxT K) ix_tup (pv 0) pe_int (fun _ _ => rfl)) pa_nil)) pe_int) pa_nil)))))) (pw_or1 (pt_cmpR (r := rIn K true) op_notIn_seq (pv 4) (pv 1) rfl)))))
        (fun _ _ _ _ _ => pv 4)) (pe_lstN pa_nil) (nomark _))))), ?_⟩
  rcases hv with ⟨t, ⟨b, ht, hb⟩, hw, q⟩ | ⟨x, y, l, zs, ht, hl', q⟩
  rotate_left
  · refine ⟨_, rfl, _, _, _, _, _, rfl, .ty _, .base (.tup ht), kit_ty (b := "tuple") (r := true) (by decide +kernel), _, rfl, ?_⟩
    refine ⟨_, rfl, ta, _, rfl, .inr (SqT.of ht), rfl, _, rfl, iteNS rfl ?_⟩
    exact ⟨_, rfl, ta, _, 1, _, rfl, rfl, SqT.of ht, rfl, _, _, _, _, _, rfl, .ty _, .base (.lst hl'), kit_ty (b := "tuple") (r := false) (by decide +kernel), _, rfl, q⟩
  refine ⟨_, rfl, _, _, _, _, _, rfl, .ty _, .base (.tup ht), kit_ty (b := "tuple") (r := true) (by decide +kernel), _, rfl, ?_⟩
  refine ⟨_, rfl, ta, _, rfl, .inr (SqT.of ht), rfl, _, rfl, iteNS rfl ?_⟩
  refine ⟨_, rfl, ta, _, 1, _, rfl, rfl, SqT.of ht, rfl, _, _, _, _, _, rfl, .ty _, .base (.tup hb), kit_ty (b := "tuple") (r := true) (by decide +kernel), _, rfl, ?_⟩
  refine ⟨_, rfl, ta, _, 0, _, rfl, rfl, SqT.of ht, rfl, by show 1 ≤ _; omega, fun p1 H1 hp1 k1 e1 => ?_⟩
  refine ⟨_, rfl, ta, _, 1, _, rfl, rfl, SqT.of (k1.tup _ _ ht), rfl, p1, b, _, _, rfl, rfl, e1, k1.tup _ _ hb, by rw [nvs_length]; show 1 + _ ≤ _; omega, fun p2 H2 k2 e2 => ?_⟩
  have k12 := k1.trans k2
  refine ⟨_, rfl, ta, _, 2, _, rfl, rfl, SqT.of (k12.tup _ _ ht), rfl, by show 1 ≤ _; omega, fun p3 H3 hp3 k3 e3 => ?_⟩
  refine ⟨p2, p3, _, _, rfl, rfl, k3.tup _ _ e2, e3, by rw [List.length_append, nvs_length]; show 1 + _ + 1 ≤ _; omega, fun p4 H4 k4 e4 => ?_⟩
  have e4 : TN H4 p4 (t.p :: (t.w ++ [t.r])) := by
    have z : ([nv t.p] ++ nvs t.w ++ [nv t.r] : List V) = nvs (t.p :: (t.w ++ [t.r])) := by
      show [nv t.p] ++ nvs t.w ++ nvs [t.r] = nv t.p :: nvs (t.w ++ [t.r])
      rw [nvs_app]
      rfl
    rw [z] at e4
    exact e4
  have k14 : Kp [] H H4 := k12.trans (k3.trans k4)
  obtain ⟨zs, b0, ys, a1, a2, a3, ly⟩ := first_at G hh
  refine ⟨_, rfl, p4, rfl, ⟨_, SqT.of e4⟩, fun Cc hC => lcN walk_tup [] (fun j l _ => l = nvs (((t.p :: (t.w ++ [t.r])).take j).filter fun x => !decide (x ∈ lot))) hC (fun _ _ => rfl) (fun j l H _ k _ => SqT.of (k.tup _ _ e4)) ?_ ?_⟩
  · rintro j x l8 H8 H9 hj k8 e8 rfl ⟨rfl, hx⟩
    obtain ⟨n9, hn9, rfl⟩ := nvs_at hx
    have rs := filt_snoc (p := fun x => !decide (x ∈ lot)) hn9
    have k08 := k14.tup.trans k8.tup
    have hsz : (nvs (((t.p :: (t.w ++ [t.r])).take j).filter fun x => !decide (x ∈ lot))).length < sizeLine := by
      rw [nvs_length]
      have z1 := List.length_filter_le (fun x => !decide (x ∈ lot)) ((t.p :: (t.w ++ [t.r])).take j)
      have z2 : ((t.p :: (t.w ++ [t.r])).take j).length ≤ (t.p :: (t.w ++ [t.r])).length := by rw [List.length_take]; omega
      have z3 : (t.p :: (t.w ++ [t.r])).length = t.w.length + 2 := by rw [List.length_cons, List.length_append]; rfl
      omega
    have inn : ∀ l, n9 ∉ lot → l = nvs (((t.p :: (t.w ++ [t.r])).take j).filter fun x => !decide (x ∈ lot)) ++ [nv n9] → l = nvs (((t.p :: (t.w ++ [t.r])).take (j + 1)).filter fun x => !decide (x ∈ lot)) := fun l h e => by
      rw [e, rs, if_pos (by rw [decide_eq_false h]; rfl), nvs_app]
      rfl
    refine ⟨rfl, _, rfl, _, rfl, ha, zs, 0, _, rfl, rfl, SqT.of (k08 _ _ a1), a2, b0, ys, rfl, .inr (SqT.of (k08 _ _ a3)), _, _, rfl, rfl, _, _, _, rfl, _, rfl, ite2 (fun z => ?_) (fun z => ?_)⟩
    · have nl : n9 ∉ lot := fun h => by
        have := G.lt n9 h
        rw [decide_eq_true (by omega)] at z
        cases z
      exact ⟨_, rfl, PvL.add k8 e8 hsz fun H5 k5 => inn _ nl rfl⟩
    · refine ⟨_, rfl, _, rfl, la, nvs lot, rfl, .inr (SqT.of (k08 _ _ hl)), rfl, flat_nvs _, _, rfl, ?_⟩
      show if (!inV (nv n9) (nvs lot)) = true then _ else _
      rw [inV_nvs]
      by_cases h : n9 ∈ lot
      · rw [decide_eq_true h]
        refine ⟨_, k8, e8, ?_⟩
        show _ = nvs (((t.p :: (t.w ++ [t.r])).take (j + 1)).filter fun x => !decide (x ∈ lot))
        rw [rs, if_neg (by rw [decide_eq_true h]; exact Bool.false_ne_true), List.append_nil]
      · rw [decide_eq_false h]
        exact ⟨_, rfl, PvL.add k8 e8 hsz fun H5 k5 => inn _ h rfl⟩
  · rintro l8 H8 k8 e8 rfl
    rw [nvs_length, List.take_length] at e8
    refine ⟨Nat.zero_le _, fun p9 H9 hp9 k9 e9 => ⟨nlD _, .list [], dp_nl (k9.lst e8 (by simp)), dp_lnil e9, nlD_shaped _, lnil_shaped, ?_⟩⟩
    rw [nlD_nil]
    have eo : decide (((t.p :: (t.w ++ [t.r])).filter fun x => !decide (x ∈ lot)) = []) = okb lot t := by
      unfold okb
      rw [Bool.eq_iff_iff, decide_eq_true_iff, List.filter_eq_nil_iff, List.all_eq_true]
      simp
    rw [eo]
    exact q H9 (k14.trans (k8.trans k9))
end
end Rs


set_option Elab.async false
set_option linter.all false
set_option maxRecDepth 100000
set_option maxHeartbeats 4000000
namespace Rs
open PySem PySem.Spec PyProof.Rows L2
abbrev sWorstOf : Stmt := topS 28
/-! ### trees as data -/
def tD : T → PyData
  | .left g => .tuple [.str "left", nD g]
  | .test t a b => .tuple [.str "test", .tuple [.int t.p, nD t.w, .int t.r], tD a, tD b]
theorem dp_test {K : PySem.W.Frag} {H : Hp} {a : Addr} {t : Ts} (h : TestAt H a t) : Dp K H (.ref a) (.tuple [.int t.p, nD t.w, .int t.r]) := by
  obtain ⟨b, e, hb⟩ := h
  exact .tup (SqT.of e) (.cons (.int _) (.cons (dp_n hb) (.cons (.int _) .nil)))
theorem dp_tree {K : PySem.W.Frag} {H : Hp} : ∀ {t : T} {a : Addr}, TreeAt H a t → Dp K H (.ref a) (tD t)
  | .left g, a, h => by
    obtain ⟨b, e, hb⟩ := h
    exact .tup (SqT.of e) (.cons (.str _) (.cons (dp_n hb) .nil))
  | .test t x y, a, h => by
    obtain ⟨b, c, d, e, h1, h2, h3⟩ := h
    exact .tup (SqT.of e) (.cons (.str _) (.cons (dp_test h1) (.cons (dp_tree h2) (.cons (dp_tree h3) .nil))))
theorem ts_lay (t : Ts) : (PyData.tuple [.int t.p, nD t.w, .int t.r]).canLay0 = true := by
  simp only [PyData.canLay0, PyData.canLayAll0, nD_lay, Bool.and_true]
theorem ts_depth (t : Ts) : (PyData.tuple [.int t.p, nD t.w, .int t.r]).depth ≤ 2 := by
  have := nD_depth t.w
  simp only [PyData.depth, PyData.depthAll]
  omega
theorem tD_lay : ∀ t : T, (tD t).canLay0 = true
  | .left g => by
    have z : PyData.strOk ("left" : Str) = true := by decide +kernel
    simp only [tD, PyData.canLay0, PyData.canLayAll0, nD_lay, Bool.and_true, z]
  | .test t a b => by
    have h1 := ts_lay t
    have h2 := tD_lay a
    have h3 := tD_lay b
    unfold tD
    rw [show (PyData.tuple [.str "test", .tuple [.int t.p, nD t.w, .int t.r], tD a, tD b]).canLay0 = ((PyData.str "test").canLay0 && ((PyData.tuple [.int t.p, nD t.w, .int t.r]).canLay0 && ((tD a).canLay0 && ((tD b).canLay0 && true)))) by simp only [PyData.canLay0, PyData.canLayAll0], h1, h2, h3]
    have z : PyData.strOk ("test" : Str) = true := by decide +kernel
    simp only [PyData.canLay0, Bool.and_true, z]
theorem tD_depth : ∀ t : T, (tD t).depth ≤ t.dp
  | .left g => by
    have := nD_depth g
    show (PyData.tuple [.str "left", nD g]).depth ≤ 2
    simp only [PyData.depth, PyData.depthAll]
    omega
  | .test t a b => by
    have h1 := ts_depth t
    have h2 := tD_depth a
    have h3 := tD_depth b
    have e : (tD (.test t a b)).depth = max (PyData.str "test").depth (max (PyData.tuple [.int t.p, nD t.w, .int t.r]).depth (max (tD a).depth (max (tD b).depth 0))) + 1 := by
      show (PyData.tuple [.str "test", .tuple [.int t.p, nD t.w, .int t.r], tD a, tD b]).depth = _
      simp only [PyData.depth, PyData.depthAll]
    rw [e]
    show _ ≤ 1 + max 2 (max a.dp b.dp)
    have z : (PyData.str "test").depth = 0 := by simp only [PyData.depth]
    omega
theorem tD_shaped {t : T} (h : t.dp ≤ 60) : SeqAt.shaped (tD t) = true := shaped_of (tD_lay t) (Nat.le_trans (tD_depth t) (by omega))
theorem left_shaped (g : List Nat) : SeqAt.shaped (.tuple [.str "left", nD g]) = true := tD_shaped (t := .left g) (by show 2 ≤ 60; decide)
theorem left_eqv (g' g : List Nat) : PyData.eqv (.tuple [.str "left", nD g']) (.tuple [.str "left", nD g]) = decide (g' = g) := by
  have z : PyData.eqv (.str "left") (.str "left") = true := by simp [PyData.eqv]
  rw [show PyData.eqv (.tuple [.str "left", nD g']) (.tuple [.str "left", nD g]) = (PyData.eqv (.str "left") (.str "left") && (PyData.eqv (nD g') (nD g) && true)) by simp only [PyData.eqv, PyData.eqvAll], z, nD_eqv]
  simp
theorem tnil_shaped : SeqAt.shaped (.tuple []) = true := nD_shaped []
/-- no tree at all, in one of the shapes that law tries -/
def BadV (K : PySem.W.Frag) (H : Hp) (v : V) : Prop :=
  v = .non ∨ (∃ a, v = .ref a ∧ H a = some (.tup [])) ∨ (∃ a, v = .ref a ∧ H a = some (.tup [.str "left"])) ∨
  (∃ a b c, v = .ref a ∧ H a = some (.tup [.str "test", .ref b]) ∧ H b = some (.tup [.int 0, .ref c, .int 0]) ∧ H c = some (.tup [])) ∨ (∃ a xs, v = .ref a ∧ H a = some (.lst xs)) ∨
  (∃ a l ns, v = .ref a ∧ H a = some (.tup [.str "left", .ref l]) ∧ H l = some (.lst (nvs ns))) ∨
  (∃ a b c e l p r ns x y, v = .ref a ∧ H a = some (.tup [.str "test", .ref b, .ref c, .ref e]) ∧ H b = some (.tup [nv p, .ref l, nv r]) ∧ H l = some (.lst (nvs ns)) ∧ TreeAt H c x ∧ TreeAt H e y ∧ x.dp ≤ 30 ∧ y.dp ≤ 30)
theorem BadV.st {K : PySem.W.Frag} {H H' : Hp} {v : V} (h : BadV K H v) (k : Kp [] H H') : BadV K H' v := by
  rcases h with h | ⟨a, e, h⟩ | ⟨a, e, h⟩ | ⟨a, b, c, e, h1, h2, h3⟩ | ⟨a, xs, e, h⟩ | ⟨a, l, ns, e, h1, h2⟩ | ⟨a, b, c, e, l, p, r, ns, x, y, ev, h1, h2, h3, h4, h5, h6, h7⟩
  · exact .inl h
  · exact .inr (.inl ⟨a, e, k.tup _ _ h⟩)
  · exact .inr (.inr (.inl ⟨a, e, k.tup _ _ h⟩))
  · exact .inr (.inr (.inr (.inl ⟨a, b, c, e, k.tup _ _ h1, k.tup _ _ h2, k.tup _ _ h3⟩)))
  · exact .inr (.inr (.inr (.inr (.inl ⟨a, xs, e, k.lst h (by simp)⟩))))
  · exact .inr (.inr (.inr (.inr (.inr (.inl ⟨a, l, ns, e, k.tup _ _ h1, k.lst h2 (by simp)⟩)))))
  · exact .inr (.inr (.inr (.inr (.inr (.inr ⟨a, b, c, e, l, p, r, ns, x, y, ev, k.tup _ _ h1, k.tup _ _ h2, k.lst h3 (by simp), h4.st k.tup, h5.st k.tup, h6, h7⟩)))))
/-- an answer of worst_of -/
def ov : Option Nat → V
  | none => .non
  | some n => nv n
noncomputable def WV (K : PySem.W.Frag) (hs : HabL) (lot g : List Nat) (H : Hp) (v : V) (o : Option Nat) : Prop :=
  (∃ a t, v = .ref a ∧ TreeAt H a t ∧ t.dp ≤ 30 ∧ t.wl ≤ 90000 ∧ o = wv hs lot g t) ∨ (BadV K H v ∧ o = none)
theorem WV.st {K : PySem.W.Frag} {hs : HabL} {lot g : List Nat} {H H' : Hp} {v : V} {o : Option Nat} (h : WV K hs lot g H v o) (k : Kp [] H H') : WV K hs lot g H' v o := by
  rcases h with ⟨a, t, e, h1, h2, h3, h4⟩ | ⟨h1, h2⟩
  · exact .inl ⟨a, t, e, h1.st k.tup, h2, h3, h4⟩
  · exact .inr ⟨h1.st k, h2⟩
def spWorstOf (K : PySem.W.Frag) (n : Nat) : Sp := fun vs H Q _ => ∃ ha la ga v hs pl lot g o, vs = [.ref ha, .ref la, .ref ga, v] ∧ Good hs pl lot ∧ Grp hs g ∧ g.length < n ∧ HabsAt H ha hs ∧ TN H la lot ∧ TN H ga g ∧ WV K hs lot g H v o ∧
  ∀ H', Kp [] H H' → Q (ov o) H'
abbrev nWorst : List Str := ["habits", "lot", "group", "value", "marked", "rest", "one", "two", "index"]
theorem scWorst : FnScope nWorst ["habits", "lot", "group", "value"] (defScope sWorstOf) := ⟨rfl, rfl, rfl, by decide +kernel, rfl, by decide +kernel, by decide +kernel⟩
section
variable {P : Program} {w : World} {K : PySem.W.Frag} {mg : Str → Option Value} {base : Heap} {f : Addr} {fd : FuncData}
theorem w_head {σ : L2.St} {H : Hp} {a : Addr} {z : Str} {rest : List V} {ds : List PyData} {D : Ends} (h3 : σ[3]? = some (some (.ref a))) (e : H a = some (.tup (.str z :: rest))) (dp : ∀ H', Kp [] H H' → Dp K H' (.ref a) (.tuple (.str z :: ds))) (sh : SeqAt.shaped (.tuple (.str z :: ds)) = true) (q : ∀ H', Kp [] H H' → D.nx σ H') :
    tIfS (tOr (tNot (tB (tCB (rIsi K) (tCons (tVar 3) (tCons (tC (.ty "tuple")) tNil))))) (tOr (tTest (tOp (rEqD K) (tVar 3) (tTupN tNil))) (tNot (tB (tCB (rIsi K) (tCons (tOp (rIxT K) (tVar 3) (tC (.int 0))) (tCons (tC (.ty "str")) tNil))))))) (tRet (tC .non)) tNext D σ H := by
  refine ⟨_, h3, _, _, _, _, _, rfl, .ty _, .base (.tup e), kit_ty (b := "tuple") (r := true) (by decide +kernel), _, rfl, ?_⟩
  refine ⟨_, h3, Nat.zero_le _, fun p H1 hp k1 e1 => ⟨_, .tuple [], dp H1 k1, .tup (SqT.of e1) .nil, sh, tnil_shaped, _, rfl, ?_⟩⟩
  rw [show PyData.eqv (.tuple (.str z :: ds)) (.tuple []) = false by simp [PyData.eqv, PyData.eqvAll]]
  exact ⟨_, h3, a, _, 0, _, rfl, rfl, SqT.of (k1.tup _ _ e), atI_nat (j := 0) rfl, _, _, _, _, _, rfl, .ty _, .base (.str z), kit_ty (b := "str") (r := true) (by decide +kernel), _, rfl, q H1 k1⟩
theorem ok_left : PyData.strOk ("left" : Str) = true := by decide +kernel
theorem ok_test : PyData.strOk ("test" : Str) = true := by decide +kernel
theorem ne24 : ¬ (V.int ((2 : Nat) : Int) = V.int 4) := fun y => by
  injection y with y
  omega
theorem sh_left : SeqAt.shaped (.tuple [.str "left"]) = true := shaped_of (by simp only [PyData.canLay0, PyData.canLayAll0, ok_left, Bool.and_true]) (by simp only [PyData.depth, PyData.depthAll]; decide)
theorem sh_two : SeqAt.shaped (.tuple [.str "test", .tuple [.int 0, .tuple [], .int 0]]) = true := shaped_of (by simp only [PyData.canLay0, PyData.canLayAll0, ok_test, Bool.and_true]) (by simp only [PyData.depth, PyData.depthAll]; decide)
theorem nlD_lay (ns : List Nat) : (nlD ns).canLay0 = true := by
  have h := nlD_shaped ns
  have h : ((nlD ns).canLay0 && decide ((nlD ns).depth ≤ 64)) = true := h
  exact (Bool.and_eq_true_iff.mp h).1
theorem nlD_depth (ns : List Nat) : (nlD ns).depth ≤ 1 := by
  have h2 := nD_depth ns
  unfold nD at h2
  unfold nlD
  simp only [PyData.depth] at h2 ⊢
  omega
theorem sh_lst (ns : List Nat) : SeqAt.shaped (.tuple [.str "left", nlD ns]) = true := shaped_of (by simp only [PyData.canLay0, PyData.canLayAll0, ok_left, nlD_lay, Bool.and_true]) (by
  have := nlD_depth ns
  simp only [PyData.depth, PyData.depthAll]
  omega)
theorem sh_bad (p r : Nat) (ns : List Nat) {x y : T} (hx : x.dp ≤ 30) (hy : y.dp ≤ 30) : SeqAt.shaped (.tuple [.str "test", .tuple [.int p, nlD ns, .int r], tD x, tD y]) = true := shaped_of (by simp only [PyData.canLay0, PyData.canLayAll0, ok_test, nlD_lay, tD_lay, Bool.and_true]) (by
  have h1 := nlD_depth ns
  have h2 := tD_depth x
  have h3 := tD_depth y
  simp only [PyData.depth, PyData.depthAll]
  omega)
theorem test_ne : ¬ (V.str "test" = V.str "left") := fun z => by
  injection z with z
  exact absurd z (by decide +kernel)
theorem ok_worstOf {n : Nat} (F : Fun K "worst_of" "worst_of" sWorstOf f fd) (B : Bi mg) (N : Cn mg) (mgW : mg "worst_of" = some (.ref f)) (bW : Binds K fd ["habits", "lot", "group", "value"] [])
    (cP : Cl P w K mg base CX0 2 "partings" ["habits", "lot", "group"] spPart) (cT : Cl P w K mg base CX0 1 "touches_of" ["test"] spTouch) (cR : Cl P w K mg base CX0 1 "reads_mark" ["habit", "test"] spReads) (cI : Cl P w K mg base CX0 2 "is_test_of" ["habits", "lot", "value"] spIsTest)
    (ih : FnOk P w K mg base CX0 (n + 2) f fd ["habits", "lot", "group", "value"] (spWorstOf K n)) : FnOk P w K mg base CX0 (n + 3) f fd ["habits", "lot", "group", "value"] (spWorstOf K (n + 1)) := by
  obtain ⟨fP, fdP, gP, mgP, kpP, bP⟩ := cP
  obtain ⟨fT, fdT, gT, mgT', kpT, bT⟩ := cT
  obtain ⟨fR, fdR, gR, mgR, kpR, bR⟩ := cR
  obtain ⟨fI, fdI, gI, mgI, kpI, bI⟩ := cI
  obtain ⟨t1, mgL⟩ := N.left
  obtain ⟨t2, mgT⟩ := N.test
  refine F.ok scWorst (fun vs H Q E h => ?_) (fun cdv A outer s H vs Q E hr h => ?_)
  · obtain ⟨ha, la, ga, v, hs, pl, lot, g, o, rfl, _⟩ := h
    rfl
  obtain ⟨ha, la, ga, v, hs, pl, lot, g, o, rfl, G, hg, hlen, hh, hl, hgr, hv, q⟩ := h
  have hu := hu_of hr
  have hu64 := hr.units
  have hr1 : Room 1 (A.deeper (envOfC "worst_of" (defScope sWorstOf) s.heap.objs.size f cdv)) := hr.mono (by omega)
  have hr2 : Room 2 (A.deeper (envOfC "worst_of" (defScope sWorstOf) s.heap.objs.size f cdv)) := hr.mono (by omega)
  refine ⟨_, pss_cons (ps_if (PW.pt (pw_or (pt_not (pt_val (pe_callB call_isi rfl B.isi boot_isinstance (pa_cons (pv 3) (pa_cons (pe_bltn (v := .ty "tuple") rfl B.tuple boot_tuple rfl) pa_nil)))))
        (pw_or (pt_cmpR (op_eqD hu64) (pv 3) (pe_tupN pa_nil) (nomark _))
          (pw_or1 (pt_not (pt_val (pe_callB call_isi rfl B.isi boot_isinstance (pa_cons (pe_ix ix_tup (pv 3) pe_int (fun _ _ => rfl)) (pa_cons (pe_bltn (v := .ty "str") rfl B.str PyProof.Rows.boot_str rfl) pa_nil)))))))))
      (pss_one (ps_ret pe_non)) pss_nil)
    (pss_cons (ps_if (pt_cmpR op_eq (pe_ix ix_tup (pv 3) pe_int (fun _ _ => rfl)) (pe_glob (v := .str "left") rfl mgL ⟨_, rfl⟩) (nomark _))
      (pss_cons (ps_if (PW.pt (pw_or (pt_cmpR (op_neD hu64) (pv 3) (pe_tupN (pa_cons (pe_glob (v := .str "left") rfl mgL ⟨_, rfl⟩) (pa_cons (pv 2) pa_nil))) (nomark _))
          (pw_or1 (pt_cmpR (op_neD hu64) (pe_lc (own := [("index", 8)]) (g := gName 8) (tt := tB (tCB (rIsi K) (tCons (tVar 8) (tCons (tC (.ty "bool")) tNil)))) rfl scWorst.nd (pi_tup (pe_ix ix_tup (pv 3) pe_int (fun _ _ => rfl))) (blkOk_by (own := [("index", 8)]) (N := nWorst) (sc := defScope sWorstOf) (by decide +kernel))
              (fun _ _ _ _ _ => pg_name (i := 8) scWorst.nd rfl (.inl rfl)) (fun _ _ _ _ _ => pts_one (pt_val (pe_callB (r := rIsi K) call_isi rfl B.isi boot_isinstance (pa_cons (pv 8) (pa_cons (pe_bltn (v := .ty "bool") rfl B.bool PyProof.Rows.boot_bool rfl) pa_nil))))) (fun _ _ _ _ _ => pv 8)) (pe_lstN pa_nil) (nomark _)))))
          (pss_one (ps_ret pe_non)) pss_nil)
        (pss_one (ps_ret (pe_ifExp (pt_cmpR (op_eqE hr.units0) (pe_call gP hr2 rfl mgP kpP bP .nil pass0 (pa_cons (pv 0) (pa_cons (pv 1) (pa_cons (pv 2) pa_nil)))) pe_dctN (nomark _)) pe_int pe_non))))
      pss_nil)
    (pss_cons (ps_if (PW.pt (pw_or (pt_cmpR op_ne (pe_ix ix_tup (pv 3) pe_int (fun _ _ => rfl)) (pe_glob (v := .str "test") rfl mgT ⟨_, rfl⟩) (nomark _))
        (pw_or (pt_cmpR op_ne (pe_callB call_len_seq rfl B.len boot_len (pa_cons (pv 3) pa_nil)) pe_int (nomark _))
          (pw_or1 (pt_not (pt_val (pe_call gI hr2 rfl mgI kpI bI .nil pass0 (pa_cons (pv 0) (pa_cons (pv 1) (pa_cons (pe_ix ix_tup (pv 3) pe_int (fun _ _ => rfl)) pa_nil))))))))))
      (pss_one (ps_ret pe_non)) pss_nil)
    (pss_cons (ps_set (i := 4) scWorst.nd rfl (.inr rfl) (pe_callTy call_tupL rfl B.tuple boot_tuple (pa_cons (pe_lc (own := [("index", 8)]) (g := gName 8) (tt := tB (tCall spReads [] E0 (tCons (tOp (rIxT K) (tVar 0) (tVar 8)) (tCons (tOp (rIxT K) (tVar 3) (tC (.int 1))) tNil)))) rfl scWorst.nd (pi_tup (pv 2)) (blkOk_by (own := [("index", 8)]) (N := nWorst) (sc := defScope sWorstOf) (by decide +kernel))
        (fun _ _ _ _ _ => pg_name (i := 8) scWorst.nd rfl (.inl rfl)) (fun _ _ _ _ _ => pts_one (pt_val (pe_call gR hr1 rfl mgR kpR bR .nil pass0 (pa_cons (pe_ix (r := rIxT K) ix_tup (pv 0) (pv 8) (fun _ _ => rfl)) (pa_cons (pe_ix (r := rIxT K) ix_tup (pv 3) pe_int (fun _ _ => rfl)) pa_nil))))) (fun _ _ _ _ _ => pv 8)) pa_nil)))
    (pss_cons (ps_set (i := 5) scWorst.nd rfl (.inl rfl) (pe_callTy call_tupL rfl B.tuple boot_tuple (pa_cons (pe_lc (own := [("index", 8)]) (g := gName 8) (tt := tTest (tOp (rIn K true) (tVar 8) (tVar 4))) rfl scWorst.nd (pi_tup (pv 2)) (blkOk_by (own := [("index", 8)]) (N := nWorst) (sc := defScope sWorstOf) (by decide +kernel))
        (fun _ _ _ _ _ => pg_name (i := 8) scWorst.nd rfl (.inl rfl)) (fun _ _ _ _ _ => pts_one (pt_cmpR (r := rIn K true) op_notIn_seq (pv 8) (pv 4) rfl)) (fun _ _ _ _ _ => pv 8)) pa_nil)))
    (pss_cons (ps_if (PW.pt (pw_or (pt_cmpR (op_eqD hu64) (pv 4) (pe_tupN pa_nil) (nomark _)) (pw_or1 (pt_cmpR (op_eqD hu64) (pv 5) (pe_tupN pa_nil) (nomark _))))) (pss_one (ps_ret pe_non)) pss_nil)
    (pss_cons (ps_par (i := 6) (j := 7) rfl scWorst.nd rfl rfl (by decide) rfl rfl (pa_cons (pe_call ih hr rfl mgW F.kp bW .nil pass0 (pa_cons (pv 0) (pa_cons (pv 1) (pa_cons (pv 4) (pa_cons (pe_ix ix_tup (pv 3) pe_int (fun _ _ => rfl)) pa_nil)))))
        (pa_cons (pe_call ih hr rfl mgW F.kp bW .nil pass0 (pa_cons (pv 0) (pa_cons (pv 1) (pa_cons (pv 5) (pa_cons (pe_ix ix_tup (pv 3) pe_int (fun _ _ => rfl)) pa_nil))))) pa_nil)) rfl)
    (pss_one (ps_ret (pe_ifExp (PW.pt (pw_or (pt_cmp (pc_isN (pv 6))) (pw_or1 (pt_cmp (pc_isN (pv 7)))))) pe_non
      (pe_op op_add (pe_call gT hr1 rfl mgT' kpT bT .nil pass0 (pa_cons (pe_ix ix_tup (pv 3) pe_int (fun _ _ => rfl)) pa_nil)) (pe_callB (call_max2 rfl) rfl B.max PyProof.Rows.boot_max (pa_cons (pv 6) (pa_cons (pv 7) pa_nil))))))))))))), ?_⟩
  have big := sizeLine_big
  have g5 : g.length ≤ 5 := Nat.le_trans hg.len G.h5
  rcases hv with ⟨a, t, rfl, ht, hdp, hwl, rfl⟩ | ⟨hb, rfl⟩
  · cases t with
    | left g' =>
      obtain ⟨b, e, hb⟩ := id ht
      refine w_head rfl e (fun H' k => dp_tree (ht.st k.tup)) (left_shaped g') fun H1 k1 => ?_
      refine ⟨_, rfl, a, _, 0, _, rfl, rfl, SqT.of (k1.tup _ _ e), rfl, rfl, _, rfl, ite2 (fun _ => ?_) (fun z => absurd (decide_eq_true rfl) z)⟩
      refine ⟨_, rfl, _, rfl, by show 2 ≤ _; omega, fun p2 H2 hp2 k2 e2 => ⟨.tuple [.str "left", nD g'], .tuple [.str "left", nD g], dp_tree (t := .left g') ((ht.st k1.tup).st k2.tup), .tup (SqT.of e2) (.cons (.str _) (.cons (dp_n (k2.tup _ _ (k1.tup _ _ hgr))) .nil)), left_shaped g', left_shaped g, _, rfl, ?_⟩⟩
      have k02 := k1.trans k2
      rw [left_eqv]
      by_cases eg : g' = g
      · rw [decide_eq_true eg]
        subst eg
        refine ⟨_, rfl, a, _, 1, _, rfl, rfl, SqT.of (k02.tup _ _ e), rfl, b, rfl, ⟨_, SqT.of (k02.tup _ _ hb)⟩, fun Cc hC => lcN walk_tup [] (fun j l _ => l = []) hC (fun _ _ => rfl) (fun j l H _ k _ => SqT.of (k.tup _ _ (k02.tup _ _ hb))) ?_ ?_⟩
        · rintro j x l8 H8 H9 hj k8 e8 rfl ⟨rfl, hx⟩
          obtain ⟨n9, hn9, rfl⟩ := nvs_at hx
          exact ⟨rfl, _, rfl, _, _, _, _, _, rfl, .ty _, .base (.int _), kit_ty (b := "bool") (r := false) (by decide +kernel), _, rfl, _, k8, e8, rfl⟩
        · rintro l8 H8 k8 e8 rfl
          refine ⟨Nat.zero_le _, fun p9 H9 hp9 k9 e9 => ⟨.list [], .list [], dp_lnil (k9.lst e8 (by simp)), dp_lnil e9, lnil_shaped, lnil_shaped, _, rfl, ?_⟩⟩
          rw [show PyData.eqv (.list []) (.list []) = true by simp [PyData.eqv, PyData.eqvAll]]
          have k09 : Kp [] H H9 := k02.trans (k8.trans k9)
          refine ⟨_, rfl, _, rfl, _, rfl, ha, la, ga, hs, pl, lot, g', rfl, G, hg, hh.st k09.tup, k09.tup _ _ hl, k09.tup _ _ hgr, fun m F H5 hm k5 ddF PSF => fun ed H6 he k6 e6 => ?_⟩
          obtain ⟨kvs, em, dp⟩ := ddF.kp RT.stb k6 (by simp)
          have q' := q H6 (k09.trans (k5.trans k6))
          refine ⟨m, ed, kvs, rfl, rfl, em, e6, _, rfl, ?_⟩
          by_cases hF : F = []
          · rw [decide_eq_true (dp.nil_iff.mpr hF)]
            rw [(tree_left PSF hF).2] at q'
            exact q'
          · rw [decide_eq_false fun z => hF (dp.nil_iff.mp z)]
            rw [wv_left_no fun z => hF (PSF.nil_iff.mpr z.2)] at q'
            exact q'
      · rw [decide_eq_false eg]
        have q' := q H2 k02
        rw [wv_left_no fun z => eg z.1] at q'
        exact q'
    | test ts x y =>
      obtain ⟨b, c, d, e, hts, htx, hty⟩ := id ht
      have hwt : ts.w.length ≤ 90000 := by
        have : max ts.w.length (max x.wl y.wl) ≤ 90000 := hwl
        omega
      have hxy : x.dp ≤ 30 ∧ y.dp ≤ 30 ∧ x.wl ≤ 90000 ∧ y.wl ≤ 90000 := by
        have h1 : max ts.w.length (max x.wl y.wl) ≤ 90000 := hwl
        have h2 : 1 + max 2 (max x.dp y.dp) ≤ 30 := hdp
        omega
      refine w_head rfl e (fun H' k => dp_tree (ht.st k.tup)) (tD_shaped (t := .test ts x y) (by omega)) fun H1 k1 => ?_
      refine ⟨_, rfl, a, _, 0, _, rfl, rfl, SqT.of (k1.tup _ _ e), rfl, rfl, _, rfl, ite2 (fun z => absurd (of_decide_eq_true z) test_ne) (fun _ => ?_)⟩
      refine ⟨_, rfl, a, _, 0, _, rfl, rfl, SqT.of (k1.tup _ _ e), rfl, rfl, _, rfl, iteNS rfl ?_⟩
      refine ⟨_, rfl, a, _, rfl, .inr (SqT.of (k1.tup _ _ e)), rfl, _, rfl, iteNS rfl ?_⟩
      refine ⟨_, rfl, _, rfl, _, rfl, a, _, 1, _, rfl, rfl, SqT.of (k1.tup _ _ e), rfl, ha, la, b, hs, pl, lot, rfl, G, hh.st k1.tup, k1.tup _ _ hl, .inl ⟨ts, hts.st k1.tup, hwt, fun H2 k2 => ⟨_, rfl, ?_⟩⟩⟩
      have k02 := k1.trans k2
      cases hok : okb lot ts with
      | false =>
        have q' := q H2 k02
        rw [wv_test_no fun p => by rw [okb_iff.mpr p.1] at hok; cases hok] at q'
        exact q'
      | true =>
        have ok := okb_iff.mp hok
        have hgr2 := k02.tup _ _ hgr
        refine ⟨_, rfl, ga, rfl, ⟨_, SqT.of hgr2⟩, fun Cc hC => lcN walk_tup [] (fun j l _ => l = nvs ((g.take j).filter (rd hs ts))) hC (fun _ _ => rfl) (fun j l H _ k _ => SqT.of (k.tup _ _ hgr2)) ?_ ?_⟩
        · rintro j v l8 H8 H9 hj k8 e8 rfl ⟨rfl, hx⟩
          obtain ⟨n9, hn9, rfl⟩ := nvs_at hx
          have rs := filt_snoc (p := rd hs ts) hn9
          have k08 := k02.tup.trans k8.tup
          obtain ⟨zs, z1, _, zf⟩ := (hh.st k08).at
          have hi : n9 < hs.length := hg.lt (List.mem_of_getElem? hn9)
          obtain ⟨bh, z2, z3⟩ := zf n9 _ (List.getElem?_eq_getElem hi)
          refine ⟨rfl, _, rfl, _, rfl, ha, zs, _, _, rfl, rfl, SqT.of z1, atI_nat z2, _, rfl, a, _, 1, _, rfl, rfl, SqT.of (k08 _ _ e), rfl, bh, b, hs, pl, lot, n9, hs[n9], ts, rfl, G, List.getElem?_eq_getElem hi, z3, hts.st k08, ok, _, rfl, ite2 (fun z => ?_) (fun z => ?_)⟩
          · refine ⟨_, rfl, PvL.add k8 e8 ?_ fun H5 k5 => ?_⟩
            · rw [nvs_length]
              have z1 := List.length_filter_le (rd hs ts) (g.take j)
              rw [List.length_take] at z1
              omega
            · rw [rs, if_pos z, nvs_app]
              rfl
          · refine ⟨_, k8, e8, ?_⟩
            show _ = nvs ((g.take (j + 1)).filter (rd hs ts))
            rw [rs, if_neg z, List.append_nil]
        · rintro l8 H8 k8 e8 rfl
          rw [nvs_length, List.take_length] at e8
          refine ⟨Cc, _, rfl, e8, fun qm H9 hqm k9 e9 => ?_⟩
          have e9 : TN H9 qm (yes hs g ts) := e9
          have k09 : Kp [] H H9 := k02.trans (k8.trans k9)
          have hgr9 := k09.tup _ _ hgr
          refine ⟨_, rfl, ga, rfl, ⟨_, SqT.of hgr9⟩, fun Cd hCd => lcN walk_tup [] (fun j l _ => l = nvs (rst (g.take j) (yes hs g ts))) hCd (fun _ _ => rfl) (fun j l H _ k _ => SqT.of (k.tup _ _ hgr9)) ?_ ?_⟩
          · rintro j v l8 H10 H11 hj k10 e10 rfl ⟨rfl, hx⟩
            obtain ⟨n9, hn9, rfl⟩ := nvs_at hx
            have rs := rst_snoc (S := yes hs g ts) hn9
            refine ⟨rfl, _, rfl, _, rfl, qm, nvs (yes hs g ts), rfl, .inr (SqT.of (k10.tup _ _ e9)), rfl, flat_nvs _, _, rfl, ?_⟩
            show if (!inV (nv n9) (nvs (yes hs g ts))) = true then _ else _
            rw [inV_nvs]
            by_cases z : n9 ∈ yes hs g ts
            · rw [decide_eq_true z]
              refine ⟨_, k10, e10, ?_⟩
              show nvs _ = nvs (rst (g.take (j + 1)) (yes hs g ts))
              rw [rs, if_pos z, List.append_nil]
            · rw [decide_eq_false z]
              refine ⟨_, rfl, PvL.add k10 e10 ?_ fun H5 k5 => ?_⟩
              · rw [nvs_length]
                have := rst_len (g.take j) (yes hs g ts)
                rw [List.length_take] at this
                omega
              · rw [rs, if_neg z, nvs_app]
                rfl
          · rintro l10 H10 k10 e10 rfl
            refine ⟨Cd, _, rfl, e10, fun qn H11 hqn k11 e11 => ?_⟩
            rw [nvs_length, List.take_length, rst_yes] at e11
            have e11 : TN H11 qn (no hs g ts) := e11
            have k911 := k10.trans k11
            have e9' : TN H11 qm (yes hs g ts) := k911.tup _ _ e9
            refine ⟨_, rfl, Nat.zero_le _, fun p12 H12 hp12 k12 e12 => ⟨nD (yes hs g ts), nD [], dp_n (k12.tup _ _ e9'), dp_n e12, nD_shaped _, nD_shaped _, _, rfl, ?_⟩⟩
            rw [nD_eqv]
            have k012 : Kp [] H H12 := k09.trans (k911.trans k12)
            by_cases ey : yes hs g ts = []
            · rw [decide_eq_true ey]
              have q' := q H12 k012
              rw [wv_test_no fun p => p.2.1 ey] at q'
              exact q'
            · rw [decide_eq_false ey]
              refine ⟨_, rfl, Nat.zero_le _, fun p13 H13 hp13 k13 e13 => ⟨nD (no hs g ts), nD [], dp_n (k13.tup _ _ (k12.tup _ _ e11)), dp_n e13, nD_shaped _, nD_shaped _, _, rfl, ?_⟩⟩
              rw [nD_eqv]
              have k013 := k012.trans k13
              by_cases en : no hs g ts = []
              · rw [decide_eq_true en]
                have q' := q H13 k013
                rw [wv_test_no fun p => p.2.2 en] at q'
                exact q'
              · rw [decide_eq_false en]
                have pr : Prp hs lot g ts := ⟨ok, ey, en⟩
                have ly := pr.yes_lt
                have ln := pr.no_lt
                refine ⟨_, rfl, _, rfl, _, rfl, _, rfl, a, _, 2, _, rfl, rfl, SqT.of (k013.tup _ _ e), rfl, ha, la, qm, .ref c, hs, pl, lot, yes hs g ts, _, rfl, G, hg.sub (yes_sub _ _ _), by omega, hh.st k013.tup, k013.tup _ _ hl, k13.tup _ _ (k12.tup _ _ e9'), .inl ⟨c, x, rfl, htx.st k013.tup, hxy.1, hxy.2.2.1, rfl⟩, fun H14 k14 => ?_⟩
                have k014 := k013.trans k14
                refine ⟨_, rfl, _, rfl, _, rfl, _, rfl, a, _, 3, _, rfl, rfl, SqT.of (k014.tup _ _ e), rfl, ha, la, qn, .ref d, hs, pl, lot, no hs g ts, _, rfl, G, hg.sub (no_sub _ _ _), by omega, hh.st k014.tup, k014.tup _ _ hl, k14.tup _ _ (k13.tup _ _ (k12.tup _ _ e11)), .inl ⟨d, y, rfl, hty.st k014.tup, hxy.2.1, hxy.2.2.2, rfl⟩, fun H15 k15 => ?_⟩
                have k015 := k014.trans k15
                have q' := q H15 k015
                refine ⟨_, _, rfl, _, rfl, _, rfl, ?_⟩
                cases h1 : wv hs lot (yes hs g ts) x with
                | none =>
                  rw [wv_test_na h1] at q'
                  exact q'
                | some v1 =>
                  refine ⟨_, rfl, _, rfl, ?_⟩
                  cases h2 : wv hs lot (no hs g ts) y with
                  | none =>
                    rw [wv_test_nb h2] at q'
                    exact q'
                  | some v2 =>
                    rw [wv_test pr h1 h2] at q'
                    refine ⟨_, rfl, a, _, 1, _, rfl, rfl, SqT.of (k015.tup _ _ e), rfl, b, ts, rfl, hts.st k015.tup, _, rfl, _, rfl, _, _, rfl, _, _, rfl, rfl, ?_⟩
                    have ee : V.int (((ts.w.length + 2 : Nat) : Int) + (if ((v2 : Nat) : Int) > ((v1 : Nat) : Int) then ((v2 : Nat) : Int) else ((v1 : Nat) : Int))) = ov (some (ts.w.length + 2 + max v1 v2)) := by
                      have z := max_nv v1 v2
                      injection z with z
                      rw [z]
                      rfl
                    exact Eq.subst (motive := fun z => Q z H15) ee.symm q'
  · rcases hb with rfl | ⟨a, rfl, e⟩ | ⟨a, rfl, e⟩ | ⟨a, b, c, rfl, e, h2, h3⟩ | ⟨a, xs, rfl, e⟩ | ⟨a, l, ns, rfl, e, h2⟩ | ⟨a, b, c, d, l, p, r, ns, x, y, rfl, e, h2, h3, h4, h5, h6, h7⟩
    · exact ⟨_, rfl, _, _, _, _, _, rfl, .ty _, .base .non, kit_ty (b := "tuple") (r := false) (by decide +kernel), _, rfl, q H (Kp.refl _)⟩
    · refine ⟨_, rfl, _, _, _, _, _, rfl, .ty _, .base (.tup e), kit_ty (b := "tuple") (r := true) (by decide +kernel), _, rfl, ?_⟩
      refine ⟨_, rfl, Nat.zero_le _, fun p H1 hp k1 e1 => ⟨.tuple [], .tuple [], .tup (SqT.of (k1.tup _ _ e)) .nil, .tup (SqT.of e1) .nil, tnil_shaped, tnil_shaped, _, rfl, ?_⟩⟩
      rw [show PyData.eqv (.tuple []) (.tuple []) = true by simp [PyData.eqv, PyData.eqvAll]]
      exact q H1 k1
    · refine w_head rfl e (fun H' k => .tup (SqT.of (k.tup _ _ e)) (.cons (.str _) .nil)) sh_left fun H1 k1 => ?_
      refine ⟨_, rfl, a, _, 0, _, rfl, rfl, SqT.of (k1.tup _ _ e), rfl, rfl, _, rfl, ite2 (fun _ => ?_) (fun z => absurd (decide_eq_true rfl) z)⟩
      refine ⟨_, rfl, _, rfl, by show 2 ≤ _; omega, fun p2 H2 hp2 k2 e2 => ⟨.tuple [.str "left"], .tuple [.str "left", nD g], .tup (SqT.of (k2.tup _ _ (k1.tup _ _ e))) (.cons (.str _) .nil), .tup (SqT.of e2) (.cons (.str _) (.cons (dp_n (k2.tup _ _ (k1.tup _ _ hgr))) .nil)), sh_left, left_shaped g, _, rfl, ?_⟩⟩
      rw [show PyData.eqv (.tuple [.str "left"]) (.tuple [.str "left", nD g]) = false by simp [PyData.eqv, PyData.eqvAll]]
      exact q H2 (k1.trans k2)
    · refine w_head rfl e (fun H' k => .tup (SqT.of (k.tup _ _ e)) (.cons (.str _) (.cons (.tup (SqT.of (k.tup _ _ h2)) (.cons (.int _) (.cons (.tup (SqT.of (k.tup _ _ h3)) .nil) (.cons (.int _) .nil)))) .nil))) sh_two fun H1 k1 => ?_
      refine ⟨_, rfl, a, _, 0, _, rfl, rfl, SqT.of (k1.tup _ _ e), rfl, rfl, _, rfl, ite2 (fun z => absurd (of_decide_eq_true z) test_ne) (fun _ => ?_)⟩
      refine ⟨_, rfl, a, _, 0, _, rfl, rfl, SqT.of (k1.tup _ _ e), rfl, rfl, _, rfl, iteNS rfl ?_⟩
      exact ⟨_, rfl, a, _, rfl, .inr (SqT.of (k1.tup _ _ e)), rfl, _, rfl, ite2 (fun _ => q H1 k1) (fun z => absurd (by show (!decide (V.int ((2 : Nat) : Int) = V.int 4)) = true; rw [decide_eq_false ne24]; rfl) z)⟩
    · exact ⟨_, rfl, _, _, _, _, _, rfl, .ty _, .base (.lst e), kit_ty (b := "tuple") (r := false) (by decide +kernel), _, rfl, q H (Kp.refl _)⟩
    · refine w_head rfl e (fun H' k => .tup (SqT.of (k.tup _ _ e)) (.cons (.str _) (.cons (dp_nl (k.lst h2 (by simp))) .nil))) (sh_lst ns) fun H1 k1 => ?_
      refine ⟨_, rfl, a, _, 0, _, rfl, rfl, SqT.of (k1.tup _ _ e), rfl, rfl, _, rfl, ite2 (fun _ => ?_) (fun z => absurd (decide_eq_true rfl) z)⟩
      refine ⟨_, rfl, _, rfl, by show 2 ≤ _; omega, fun p2 H2 hp2 k2 e2 => ⟨.tuple [.str "left", nlD ns], .tuple [.str "left", nD g], .tup (SqT.of (k2.tup _ _ (k1.tup _ _ e))) (.cons (.str _) (.cons (dp_nl (k2.lst (k1.lst h2 (by simp)) (by simp))) .nil)), .tup (SqT.of e2) (.cons (.str _) (.cons (dp_n (k2.tup _ _ (k1.tup _ _ hgr))) .nil)), sh_lst ns, left_shaped g, _, rfl, ?_⟩⟩
      rw [show PyData.eqv (.tuple [.str "left", nlD ns]) (.tuple [.str "left", nD g]) = false by simp [PyData.eqv, PyData.eqvAll, nlD, nD]]
      exact q H2 (k1.trans k2)
    · refine w_head rfl e (fun H' k => .tup (SqT.of (k.tup _ _ e)) (.cons (.str _) (.cons (.tup (SqT.of (k.tup _ _ h2)) (.cons (.int _) (.cons (dp_nl (k.lst h3 (by simp))) (.cons (.int _) .nil)))) (.cons (dp_tree (h4.st k.tup)) (.cons (dp_tree (h5.st k.tup)) .nil))))) (sh_bad p r ns h6 h7) fun H1 k1 => ?_
      refine ⟨_, rfl, a, _, 0, _, rfl, rfl, SqT.of (k1.tup _ _ e), rfl, rfl, _, rfl, ite2 (fun z => absurd (of_decide_eq_true z) test_ne) (fun _ => ?_)⟩
      refine ⟨_, rfl, a, _, 0, _, rfl, rfl, SqT.of (k1.tup _ _ e), rfl, rfl, _, rfl, iteNS rfl ?_⟩
      refine ⟨_, rfl, a, _, rfl, .inr (SqT.of (k1.tup _ _ e)), rfl, _, rfl, iteNS rfl ?_⟩
      exact ⟨_, rfl, _, rfl, _, rfl, a, _, 1, _, rfl, rfl, SqT.of (k1.tup _ _ e), rfl, ha, la, b, hs, pl, lot, rfl, G, hh.st k1.tup, k1.tup _ _ hl, .inr ⟨_, _, l, _, k1.tup _ _ h2, k1.lst h3 (by simp), _, rfl, q H1 k1⟩⟩
end
end Rs


set_option Elab.async false
set_option linter.all false
set_option maxRecDepth 100000
set_option maxHeartbeats 4000000
namespace Rs
open PySem PySem.Spec PyProof.Rows L2
/-- X() -/
theorem pmk_own0 {X : Cx} {C : Addr} {bmB : List Value} {B newId initId : String} {x : Str} {p pos : Pos} (F : ExcBaseFacts B newId initId bmB) (q : PySem.W.excIn X.K C bmB newId = true) (gC : X.mg x = some (.ref C)) (kC : PySem.W.keepIn X.K (.ref C) = true) (r : Raises X (.ref C)) (hg : Gl X x)
    (hdb : (x == ("__debug__" : Str)) = false := by decide) : PMk X (.Call (.Name x p) [] [] pos) (fun _ H Q => Q (.ref C) none H) := by
  intro pins s σ H Q I h
  refine wpAny_Call_Name_kw (ld_glob I hg gC ?_ hdb)
  refine PySem.W.callWith_K0 I.kIn kC ?_
  show wpAny _ _ (call (.ref C) []) _ _ _
  obtain ⟨bm, N, nm, qn, bs, hdct, sn, sub, ab, col, dd, k0, k1, k2, k3, k5, mN, hC, hN, hni, T⟩ := exc_obj I.kIn q
  refine wpAny_call_exc_subT F T hC hN hni (fun h' e hm => ?_) (Nat.zero_le _)
  exact mk_of I hm r h (I.hok.gone hm.new)
/-- what is asked of BadTree, at CB -/
structure BT (K : PySem.W.Frag) (mg : Str → Option Value) (CB : Addr) : Prop where
  gP : mg "BadTree" = some (.ref CB)
  xP : PySem.W.excIn K CB [.type "ValueError", .type "Exception", .type "BaseException", .type "object"] "ValueError.__new__" = true
  kP : PySem.W.keepIn K (.ref CB) = true
  bP : PySem.W.subIn K (.ref CB) (.type "BaseException") = some true
  tP : PySem.W.typeIn K (.ref CB) = some (.type "type")
abbrev sWorst : Stmt := topS 29
abbrev sShows : Stmt := topS 30
def spWorst (K : PySem.W.Frag) (CB P1 P2 : Addr) : Sp := fun vs H Q E => ∃ ha la v hs pl lot o, vs = [.ref ha, .ref la, v] ∧ Good hs pl lot ∧ HabsAt H ha hs ∧ TN H la lot ∧ GxR.TabG H P1 ∧ GxR.TabG H P2 ∧ WV K hs lot (allG hs) H v o ∧
  (∀ n, o = some n → ∀ H', Kp [] H H' → Q (nv n) H') ∧ (o = none → ∀ H', Kp [] H H' → E (.ref CB) none H')
def spShows (K : PySem.W.Frag) (P1 P2 : Addr) : Sp := fun vs H Q _ => ∃ ha la v hs pl lot o, vs = [.ref ha, .ref la, v] ∧ Good hs pl lot ∧ HabsAt H ha hs ∧ TN H la lot ∧ GxR.TabG H P1 ∧ GxR.TabG H P2 ∧ WV K hs lot (allG hs) H v o ∧
  ∀ H', Kp [] H H' → Q (.bl (decide (o = some (lw hs lot (allG hs))))) H'
section
variable {P : Program} {w : World} {K : PySem.W.Frag} {mg : Str → Option Value} {base : Heap} {f : Addr} {fd : FuncData}
theorem worst_none : FnOk P w K mg base CX0 2 f fd ["habits", "lot", "group", "value"] (spWorstOf K 0) := by
  have no : ∀ vs H Q E, ¬ spWorstOf K 0 vs H Q E := fun vs H Q E h => by
    obtain ⟨ha, la, ga, v, hs, pl, lot, g, o, _, _, _, h, _⟩ := h
    omega
  exact ⟨fun vs H Q E h => absurd h (no vs H Q E), fun A outer s H args us vs Q E _ _ _ _ h => absurd h (no vs H Q E)⟩
theorem worst_all (F : Fun K "worst_of" "worst_of" sWorstOf f fd) (B : Bi mg) (N : Cn mg) (mgW : mg "worst_of" = some (.ref f)) (bW : Binds K fd ["habits", "lot", "group", "value"] [])
    (cP : Cl P w K mg base CX0 2 "partings" ["habits", "lot", "group"] spPart) (cT : Cl P w K mg base CX0 1 "touches_of" ["test"] spTouch) (cR : Cl P w K mg base CX0 1 "reads_mark" ["habit", "test"] spReads) (cI : Cl P w K mg base CX0 2 "is_test_of" ["habits", "lot", "value"] spIsTest) :
    ∀ n, FnOk P w K mg base CX0 (n + 2) f fd ["habits", "lot", "group", "value"] (spWorstOf K n)
  | 0 => worst_none
  | n + 1 => ok_worstOf F B N mgW bW cP cT cR cI (worst_all F B N mgW bW cP cT cR cI n)
theorem scWorstX : FnScope ["habits", "lot", "tree", "found"] ["habits", "lot", "tree"] (defScope sWorst) := ⟨rfl, rfl, rfl, by decide +kernel, rfl, by decide +kernel, by decide +kernel⟩
theorem scShows : FnScope ["habits", "lot", "value"] ["habits", "lot", "value"] (defScope sShows) := ⟨rfl, rfl, rfl, by decide +kernel, rfl, by decide +kernel, by decide +kernel⟩
theorem ok_worst {P1 P2 CB : Addr} (F : Fun K "worst" "worst" sWorst f fd) (B : Bi mg) (T : BT K mg CB) (cM : Cl P w K mg base CX0 3 "need_many" ["value"] (spNeedM P1)) (cL : Cl P w K mg base CX0 1 "need_lot" ["habit", "value"] (spNeedL P2))
    (cW : Cl P w K mg base CX0 8 "worst_of" ["habits", "lot", "group", "value"] (spWorstOf K 6)) : FnOk P w K mg base (L2.CX P w) 9 f fd ["habits", "lot", "tree"] (spWorst K CB P1 P2) := by
  obtain ⟨fM, fdM, gM, mgM, kpM, bM⟩ := cM
  obtain ⟨fL, fdL, gL, mgL, kpL, bL⟩ := cL
  obtain ⟨fB, fdB, gB, mgB, kpB, bB⟩ := cW
  refine F.okX scWorstX (fun vs H Q E h => ?_) (fun cdv A outer s H vs Q E hr h => ?_)
  · obtain ⟨ha, la, v, hs, pl, lot, o, rfl, _⟩ := h
    rfl
  obtain ⟨ha, la, v, hs, pl, lot, o, rfl, G, hh, hl, t1, t2, hv, q1, q2⟩ := h
  refine ⟨_, pss_cons (ps_expr (pe_call gM (hr.mono (by decide)) rfl mgM kpM bM .nil pass0 (pa_cons (pv 0) pa_nil)))
    (pss_cons (ps_expr (pe_call gL (hr.mono (by decide)) rfl mgL kpL bL .nil pass0 (pa_cons (pe_ix ix_tup (pv 0) pe_int (fun _ _ => rfl)) (pa_cons (pv 1) pa_nil))))
    (pss_cons (ps_set (i := 3) scWorstX.nd rfl (.inl rfl) (pe_call gB hr rfl mgB kpB bB .nil pass0 (pa_cons (pv 0) (pa_cons (pv 1) (pa_cons (pe_tupR1 rfl rfl B.tuple rfl B.range (pe_callB call_len_seq rfl B.len boot_len (pa_cons (pv 0) pa_nil))) (pa_cons (pv 2) pa_nil))))))
    (pss_cons (ps_if (pt_cmp (pc_isN (pv 3))) (pss_one (ps_raise rfl (takes_of rfl rfl rfl rfl) (pmk_own0 PySem.F.excBase_ValueError T.xP T.gP T.kP (raises_own T.bP T.tP) rfl))) pss_nil)
    (pss_one (ps_ret (pv 3)))))), ?_⟩
  obtain ⟨zs, b, ys, e1, e2, e3, ly⟩ := first_at G hh
  have h5 := G.h5
  refine ⟨_, rfl, ha, hs, pl, lot, rfl, hh, G, t1, fun H1 k1 => ?_⟩
  refine ⟨_, rfl, ha, zs, _, _, rfl, rfl, SqT.of (k1.tup _ _ e1), e2, _, rfl, b, la, ys, lot, rfl, k1.tup _ _ e3, k1.tup _ _ hl, G.ne, G.asc, by rw [ly]; exact G.lt, by rw [ly]; exact G.p5, k1.tab _ t2, fun H2 k2 => ?_⟩
  have k12 := k1.trans k2
  obtain ⟨xs, ex, hlx, _⟩ := hh.at
  refine ⟨_, rfl, _, rfl, _, rfl, ha, xs, rfl, .inr (SqT.of (k12.tup _ _ ex)), _, rfl, by rw [hlx]; refine ⟨?_, ?_, ?_, ?_, ?_⟩ <;> omega, fun ga H3 hga k3 e4 => ?_⟩
  rw [hlx, rgV_nvs] at e4
  have k13 := k12.trans k3
  refine ⟨_, rfl, ha, la, ga, v, hs, pl, lot, allG hs, o, rfl, G, allG_grp hs, by rw [List.length_range]; omega, hh.st k13.tup, k13.tup _ _ hl, e4, hv.st k13, fun H4 k4 => ?_⟩
  have k14 := k13.trans k4
  refine ⟨_, rfl, _, rfl, ?_⟩
  cases o with
  | none => exact q2 rfl H4 k14
  | some n => exact ⟨_, rfl, q1 n rfl H4 k14⟩
theorem ok_shows {P1 P2 : Addr} (F : Fun K "shows_tree" "shows_tree" sShows f fd) (B : Bi mg) (cM : Cl P w K mg base CX0 3 "need_many" ["value"] (spNeedM P1)) (cL : Cl P w K mg base CX0 1 "need_lot" ["habit", "value"] (spNeedL P2))
    (cW : Cl P w K mg base CX0 8 "worst_of" ["habits", "lot", "group", "value"] (spWorstOf K 6)) (cT : Cl P w K mg base CX0 9 "best_tree" ["habits", "lot"] spBest) : FnOk P w K mg base CX0 10 f fd ["habits", "lot", "value"] (spShows K P1 P2) := by
  obtain ⟨fM, fdM, gM, mgM, kpM, bM⟩ := cM
  obtain ⟨fL, fdL, gL, mgL, kpL, bL⟩ := cL
  obtain ⟨fB, fdB, gB, mgB, kpB, bB⟩ := cW
  obtain ⟨fT, fdT, gT, mgT, kpT, bT⟩ := cT
  refine F.ok scShows (fun vs H Q E h => ?_) (fun cdv A outer s H vs Q E hr h => ?_)
  · obtain ⟨ha, la, v, hs, pl, lot, o, rfl, _⟩ := h
    rfl
  obtain ⟨ha, la, v, hs, pl, lot, o, rfl, G, hh, hl, t1, t2, hv, q⟩ := h
  refine ⟨_, pss_cons (ps_expr (pe_call gM (hr.mono (by decide)) rfl mgM kpM bM .nil pass0 (pa_cons (pv 0) pa_nil)))
    (pss_cons (ps_expr (pe_call gL (hr.mono (by decide)) rfl mgL kpL bL .nil pass0 (pa_cons (pe_ix ix_tup (pv 0) pe_int (fun _ _ => rfl)) (pa_cons (pv 1) pa_nil))))
    (pss_one (ps_ret (pe_cmpR (op_eqD hr.units) (pe_call gB (hr.mono (by decide)) rfl mgB kpB bB .nil pass0 (pa_cons (pv 0) (pa_cons (pv 1) (pa_cons (pe_tupR1 rfl rfl B.tuple rfl B.range (pe_callB call_len_seq rfl B.len boot_len (pa_cons (pv 0) pa_nil))) (pa_cons (pv 2) pa_nil)))))
      (pe_ix ix_tup (pe_call gT hr rfl mgT kpT bT .nil pass0 (pa_cons (pv 0) (pa_cons (pv 1) pa_nil))) pe_int (fun _ _ => rfl)) (nomark _))))), ?_⟩
  obtain ⟨zs, b, ys, e1, e2, e3, ly⟩ := first_at G hh
  have h5 := G.h5
  refine ⟨_, rfl, ha, hs, pl, lot, rfl, hh, G, t1, fun H1 k1 => ?_⟩
  refine ⟨_, rfl, ha, zs, _, _, rfl, rfl, SqT.of (k1.tup _ _ e1), e2, _, rfl, b, la, ys, lot, rfl, k1.tup _ _ e3, k1.tup _ _ hl, G.ne, G.asc, by rw [ly]; exact G.lt, by rw [ly]; exact G.p5, k1.tab _ t2, fun H2 k2 => ?_⟩
  have k12 := k1.trans k2
  obtain ⟨xs, ex, hlx, _⟩ := hh.at
  refine ⟨_, rfl, _, rfl, _, rfl, ha, xs, rfl, .inr (SqT.of (k12.tup _ _ ex)), _, rfl, by rw [hlx]; refine ⟨?_, ?_, ?_, ?_, ?_⟩ <;> omega, fun ga H3 hga k3 e4 => ?_⟩
  rw [hlx, rgV_nvs] at e4
  have k13 := k12.trans k3
  refine ⟨_, rfl, ha, la, ga, v, hs, pl, lot, allG hs, o, rfl, G, allG_grp hs, by rw [List.length_range]; omega, hh.st k13.tup, k13.tup _ _ hl, e4, hv.st k13, fun H4 k4 => ?_⟩
  have k14 := k13.trans k4
  refine ⟨_, rfl, _, rfl, ha, la, hs, pl, lot, rfl, G, hh.st k14.tup, k14.tup _ _ hl, fun r bt t H5 k5 er et ew => ?_⟩
  have q' := q H5 (k14.trans k5)
  refine ⟨r, _, 0, _, rfl, rfl, SqT.of er, rfl, ?_⟩
  cases o with
  | none =>
    refine ⟨.none, .int ((lw hs lot (allG hs) : Nat) : Int), .non, .int _, by decide +kernel, by simp [SeqAt.shaped, PyData.canLay0, PyData.depth], ?_⟩
    rw [show PyData.eqv .none (.int ((lw hs lot (allG hs) : Nat) : Int)) = false by simp [PyData.eqv]]
    rw [decide_eq_false (by intro z; cases z)] at q'
    exact q'
  | some n =>
    refine ⟨.int (n : Int), .int ((lw hs lot (allG hs) : Nat) : Int), .int _, .int _, by simp [SeqAt.shaped, PyData.canLay0, PyData.depth], by simp [SeqAt.shaped, PyData.canLay0, PyData.depth], ?_⟩
    have e : PyData.eqv (.int (n : Int)) (.int ((lw hs lot (allG hs) : Nat) : Int)) = decide (some n = some (lw hs lot (allG hs))) := by
      by_cases z : n = lw hs lot (allG hs)
      · rw [decide_eq_true (by rw [z])]
        simp [PyData.eqv, z]
      · rw [decide_eq_false fun q => z (Option.some.inj q)]
        simp only [PyData.eqv]
        exact beq_eq_false_iff_ne.mpr (by omega)
    rw [e]
    exact q'
end
end Rs


set_option Elab.async false
set_option linter.all false
set_option maxRecDepth 100000
set_option maxHeartbeats 4000000
/-! law's own helpers: what is drawn from the script -/
namespace Rs
open PySem PySem.Spec PyProof.Rows L2
abbrev sTaken : Stmt := topS 32
def RowAt (H : Hp) (a sc : Addr) : Prop := ∃ i s r : Int, H a = some (.lst [.ref sc, .int i, .int s, .int r]) ∧ 0 ≤ i ∧ 0 ≤ s ∧ s < 2147483647 ∧ 0 ≤ r
/-- the script stands at sc, apart from the row at a -/
def ScrAt (K : PySem.W.Frag) (H : Hp) (a sc : Addr) (ns : List Int) : Prop := (Rd H sc (.lst (ns.map V.int)) ∧ a ≠ sc) ∨ ∀ H', SqL K H' sc (ns.map V.int)
theorem ScrAt.sq {K : PySem.W.Frag} {H : Hp} {a sc : Addr} {ns : List Int} (h : ScrAt K H a sc ns) : SqL K H sc (ns.map V.int) := by
  rcases h with ⟨h, _⟩ | h
  · exact .inl h
  · exact h H
theorem ScrAt.kp {K : PySem.W.Frag} {H H' : Hp} {a sc : Addr} {ns : List Int} (h : ScrAt K H a sc ns) (k : Kp [a] H H') : ScrAt K H' a sc ns := by
  rcases h with ⟨e | ⟨o, e⟩, n⟩ | h
  · exact .inl ⟨.inl (k.lst e (by simp [n.symm])), n⟩
  · exact .inl ⟨.inr ⟨o, k.frz e (by simp [n.symm])⟩, n⟩
  · exact .inr h
theorem ScrAt.new {K : PySem.W.Frag} {H H' : Hp} {a sc : Addr} {ns : List Int} (h : SqL K H sc (ns.map V.int)) (ha : H a = none) (k : Kp [] H H') : ScrAt K H' a sc ns := by
  rcases h with (e | ⟨o, e⟩) | h
  · exact .inl ⟨.inl (k.lst e (by simp)), (ne_of_none e ha).symm⟩
  · exact .inl ⟨.inr ⟨o, k.frz e (by simp)⟩, (ne_of_none e ha).symm⟩
  · exact .inr fun H' => .inr h
def spTaken (K : PySem.W.Frag) : Sp := fun vs H Q _ => ∃ (a sc : Addr) (ns : List Int) (many : Nat), vs = [.ref a, nv many] ∧ 0 < many ∧ many ≤ 1000 ∧ RowAt H a sc ∧ ScrAt K H a sc ns ∧ ns.length ≤ 63 ∧
  ∀ v H', v < many → Kp [a] H H' → RowAt H' a sc → Q (nv v) H'
section
variable {P : Program} {w : World} {K : PySem.W.Frag} {mg : Str → Option Value} {base : Heap} {f : Addr} {fd : FuncData}
abbrev nTaken : List Str := ["_law_row", "_law_many", "_law_found", "_law_cell"]
theorem scTaken : FnScope nTaken ["_law_row", "_law_many"] (defScope sTaken) := ⟨rfl, rfl, rfl, by decide +kernel, rfl, by decide +kernel, by decide +kernel⟩
theorem mod_nv (x : Int) {m : Nat} (h : 0 < m) : ∃ v : Nat, v < m ∧ x % (m : Int) = (v : Int) := by
  have h1 := Int.emod_nonneg x (by omega : (m : Int) ≠ 0)
  have h2 := Int.emod_lt_of_pos x (by omega : (0 : Int) < (m : Int))
  exact ⟨(x % (m : Int)).toNat, by omega, by omega⟩
theorem ok_taken (F : Fun K "_law_taken" "_law_taken" sTaken f fd) (B : Bi mg) : FnOk P w K mg base CX0 1 f fd ["_law_row", "_law_many"] (spTaken K) := by
  refine F.ok scTaken (fun vs H Q E h => ?_) (fun cdv A outer s H vs Q E hr h => ?_)
  · obtain ⟨a, sc, ns, many, rfl, _⟩ := h
    rfl
  obtain ⟨a, sc, ns, many, rfl, m0, m1, ⟨i, s0, r, hrow, i0, s1, s2, r0⟩, hsc, h63, q⟩ := h
  refine ⟨_, pss_cons (ps_if (pt_cmpR op_gt (pe_ix ix_list (pv 0) pe_int (fun _ _ => rfl)) pe_int (nomark _))
      (pss_cons (ps_set (i := 2) scTaken.nd rfl (.inl rfl) (pe_op op_mod (pe_callTy call_int1 rfl B.int PyProof.Rows.boot_int (pa_cons (pe_ix ix_list (pv 0) pe_int (fun _ _ => rfl)) pa_nil)) (pv 1)))
      (pss_cons (ps_asg (pe_op op_fdiv (pe_ix ix_list (pv 0) pe_int (fun _ _ => rfl)) (pv 1)) (pg_sub (pv 0) pe_int set_list))
      (pss_one (ps_ret (pv 2))))) pss_nil)
    (pss_cons (ps_asg (pe_op op_add (pe_ix ix_list (pv 0) pe_int (fun _ _ => rfl)) pe_int) (pg_sub (pv 0) pe_int set_list))
    (pss_cons (ps_if (pt_cmpR op_gt (pe_ix ix_list (pv 0) pe_int (fun _ _ => rfl)) (pe_callB call_len_seq rfl B.len boot_len (pa_cons (pe_ix ix_list (pv 0) pe_int (fun _ _ => rfl)) pa_nil)) (nomark _))
      (pss_cons (ps_asg (pe_op op_mod (pe_callTy call_int1 rfl B.int PyProof.Rows.boot_int (pa_cons (pe_op op_add (pe_op op_mul (pe_ix ix_list (pv 0) pe_int (fun _ _ => rfl)) pe_int) pe_int) pa_nil)) pe_int) (pg_sub (pv 0) pe_int set_list))
      (pss_one (ps_ret (pe_op op_mod (pe_callTy call_int1 rfl B.int PyProof.Rows.boot_int (pa_cons (pe_op op_fdiv (pe_ix ix_list (pv 0) pe_int (fun _ _ => rfl)) pe_int) pa_nil)) (pv 1))))) pss_nil)
    (pss_cons (ps_set (i := 3) scTaken.nd rfl (.inl rfl) (pe_ix ix_list (pe_ix ix_list (pv 0) pe_int (fun _ _ => rfl)) (pe_op op_sub (pe_ix ix_list (pv 0) pe_int (fun _ _ => rfl)) pe_int) (fun _ _ => rfl)))
    (pss_cons (ps_asg (pe_op op_mod (pe_callTy call_int1 rfl B.int PyProof.Rows.boot_int (pa_cons (pe_op op_add (pe_op op_add (pe_op op_mul (pe_ix ix_list (pv 0) pe_int (fun _ _ => rfl)) pe_int) (pv 3)) pe_int) pa_nil)) pe_int) (pg_sub (pv 0) pe_int set_list))
    (pss_cons (ps_if (pt_cmpR op_ge (pv 3) (pe_op op_pow pe_int pe_int) (nomark _)) (pss_one (ps_asg (pe_op op_fdiv (pv 3) (pv 1)) (pg_sub (pv 0) pe_int set_list))) pss_nil)
    (pss_one (ps_ret (pe_op op_mod (pe_callTy call_int1 rfl B.int PyProof.Rows.boot_int (pa_cons (pv 3) pa_nil)) (pv 1))))))))), ?_⟩
  have put : ∀ {H0 : Hp} {xs : List V} (o : List V), H0 a = some (.lst xs) → Kp [a] H0 (upd H0 a (.lst o)) := fun o e => Kp.put (by rw [e]; trivial) List.mem_cons_self _
  have fin : ∀ (x : Int) (v : Nat) (H' : Hp), x = (v : Int) → v < many → Kp [a] H H' → RowAt H' a sc → Q (.int x) H' := by
    rintro _ v H' rfl hv k rw'
    exact q v H' hv k rw'
  refine ⟨_, rfl, a, _, 3, _, rfl, rfl, SqL.of hrow, rfl, _, _, rfl, rfl, _, rfl, ite2 (fun _ => ?_) (fun _ => ?_)⟩
  · refine ⟨_, rfl, a, _, 3, _, rfl, rfl, SqL.of hrow, rfl, .inl ⟨_, rfl, _, rfl, _, _, rfl, rfl, by omega, ?_⟩⟩
    refine ⟨_, rfl, a, _, 3, _, rfl, rfl, SqL.of hrow, rfl, _, rfl, _, _, rfl, rfl, ⟨by omega, by omega⟩, _, rfl, a, _, 3, 3, rfl, rfl, hrow, rfl, _, rfl, ?_⟩
    obtain ⟨v, hv, ev⟩ := mod_nv r m0
    exact fin _ v _ ev hv (put _ hrow) ⟨i, s0, r / (many : Int), upd_same, i0, s1, s2, Int.ediv_nonneg r0 (by omega)⟩
  refine ⟨_, rfl, a, _, 1, _, rfl, rfl, SqL.of hrow, rfl, _, _, rfl, rfl, _, rfl, a, _, 1, 1, rfl, rfl, hrow, rfl, ?_⟩
  have k1 : Kp [a] H _ := put ([.ref sc, .int (i + 1), .int s0, .int r]) hrow
  have hrow1 : upd H a (.lst [.ref sc, .int (i + 1), .int s0, .int r]) a = some (.lst [.ref sc, .int (i + 1), .int s0, .int r]) := upd_same
  have hsc1 := (hsc.kp k1).sq
  refine ⟨_, rfl, a, _, 1, _, rfl, rfl, SqL.of hrow1, rfl, _, rfl, a, _, 0, _, rfl, rfl, SqL.of hrow1, rfl, sc, _, rfl, .inl hsc1, _, _, rfl, rfl, _, rfl, ite2 (fun _ => ?_) (fun z => ?_)⟩
  · refine ⟨_, rfl, a, _, 2, _, rfl, rfl, SqL.of hrow1, rfl, _, _, rfl, rfl, .inl ⟨by omega, by omega⟩, _, _, rfl, rfl, .inl ⟨_, rfl, _, _, rfl, rfl, (by decide : (0 : Int) < 2147483647), _, rfl, a, _, 2, 2, rfl, rfl, hrow1, rfl, ?_⟩⟩
    have k2 := k1.trans (put [.ref sc, .int (i + 1), .int ((s0 * 48271 + 11) % 2147483647), .int r] hrow1)
    have hrow2 : upd (upd H a (.lst [.ref sc, .int (i + 1), .int s0, .int r])) a (.lst [.ref sc, .int (i + 1), .int ((s0 * 48271 + 11) % 2147483647), .int r]) a = some (.lst [.ref sc, .int (i + 1), .int ((s0 * 48271 + 11) % 2147483647), .int r]) := upd_same
    refine ⟨_, rfl, a, _, 2, _, rfl, rfl, SqL.of hrow2, rfl, _, _, rfl, rfl, ⟨by decide, by decide⟩, .inl ⟨_, rfl, _, rfl, _, _, rfl, rfl, by omega, ?_⟩⟩
    obtain ⟨v, hv, ev⟩ := mod_nv ((s0 * 48271 + 11) % 2147483647 / 7) m0
    exact fin _ v _ ev hv k2 ⟨_, _, r, hrow2, by omega, Int.emod_nonneg _ (by decide), Int.emod_lt_of_pos _ (by decide), r0⟩
  · have z : ¬ ((((ns.map V.int).length : Nat) : Int) < i + 1) := fun q => z (decide_eq_true q)
    rw [List.length_map] at z
    have hi : i.toNat < ns.length := by omega
    have hat : atI (ns.map V.int) (i + 1 - 1) = some (.int ns[i.toNat]) := by
      have e : i + 1 - 1 = ((i.toNat : Nat) : Int) := by omega
      rw [e]
      exact atI_nat (by rw [List.getElem?_map, List.getElem?_eq_getElem hi]; rfl)
    generalize ns[i.toNat] = c at hat
    refine ⟨_, rfl, a, _, 0, _, rfl, rfl, SqL.of hrow1, rfl, _, rfl, a, _, 1, _, rfl, rfl, SqL.of hrow1, rfl, _, _, rfl, rfl, sc, _, _, _, rfl, rfl, hsc1, hat, ?_⟩
    refine ⟨_, rfl, a, _, 2, _, rfl, rfl, SqL.of hrow1, rfl, _, _, rfl, rfl, .inl ⟨by omega, by omega⟩, _, rfl, _, _, rfl, rfl, _, _, rfl, rfl, .inl ⟨_, rfl, _, _, rfl, rfl, (by decide : (0 : Int) < 2147483647), _, rfl, a, _, 2, 2, rfl, rfl, hrow1, rfl, ?_⟩⟩
    have k2 := k1.trans (put [.ref sc, .int (i + 1), .int ((s0 * 48271 + c + 11) % 2147483647), .int r] hrow1)
    have hrow2 : upd (upd H a (.lst [.ref sc, .int (i + 1), .int s0, .int r])) a (.lst [.ref sc, .int (i + 1), .int ((s0 * 48271 + c + 11) % 2147483647), .int r]) a = some (.lst [.ref sc, .int (i + 1), .int ((s0 * 48271 + c + 11) % 2147483647), .int r]) := upd_same
    have sn : 0 ≤ (s0 * 48271 + c + 11) % 2147483647 := Int.emod_nonneg _ (by decide)
    have sl : (s0 * 48271 + c + 11) % 2147483647 < 2147483647 := Int.emod_lt_of_pos _ (by decide)
    obtain ⟨v, hv, ev⟩ := mod_nv c m0
    refine ⟨_, rfl, _, _, rfl, rfl, ⟨by decide, by decide, by decide⟩, _, _, rfl, rfl, _, rfl, ite2 (fun z => ?_) (fun z => ?_)⟩
    · have z := of_decide_eq_true z
      have c0 : (0 : Int) ≤ (10 : Int) ^ (18 : Int).toNat := by decide
      refine ⟨_, rfl, _, rfl, _, _, rfl, rfl, ⟨by omega, by omega⟩, _, rfl, a, _, 3, 3, rfl, rfl, hrow2, rfl, ?_⟩
      refine ⟨_, rfl, .inl ⟨_, rfl, _, rfl, _, _, rfl, rfl, by omega, ?_⟩⟩
      exact fin _ v _ ev hv (k2.trans (put _ hrow2)) ⟨_, _, c / (many : Int), upd_same, by omega, sn, sl, Int.ediv_nonneg (by omega) (by omega)⟩
    · refine ⟨_, rfl, .inl ⟨_, rfl, _, rfl, _, _, rfl, rfl, by omega, ?_⟩⟩
      exact fin _ v _ ev hv k2 ⟨_, _, r, hrow2, by omega, sn, sl, r0⟩
end
end Rs


set_option Elab.async false
set_option linter.all false
set_option maxRecDepth 100000
set_option maxHeartbeats 4000000
namespace Rs
open PySem PySem.Spec PyProof.Rows L2
abbrev sLHabit : Stmt := topS 33
/-- a habit of pl places -/
def HabOk (pl : Nat) (h : List (List Nat)) : Prop := h.length = pl ∧ ∀ q ∈ h, q.length = pl ∧ q.Nodup ∧ ∀ x ∈ q, x < pl
def spLHabit (K : PySem.W.Frag) : Sp := fun vs H Q _ => ∃ (a sc : Addr) (ns : List Int) (pl : Nat), vs = [.ref a, nv pl] ∧ 2 ≤ pl ∧ pl ≤ 5 ∧ RowAt H a sc ∧ ScrAt K H a sc ns ∧ ns.length ≤ 63 ∧
  ∀ hb h H', Kp [a] H H' → RowAt H' a sc → Hab1 H' hb h → HabOk pl h → Q (.ref hb) H'
theorem seqIx {v n : Nat} (h : v < n) : seqIndex? (v : Int) n = some v := by
  unfold seqIndex?
  have e : ¬ ((v : Int) < 0) := by omega
  simp only [if_neg e]
  have e2 : (decide (0 ≤ (v : Int)) && decide ((v : Int) < (n : Int))) = true := by
    rw [Bool.and_eq_true, decide_eq_true_iff, decide_eq_true_iff]
    omega
  rw [if_pos e2]
  rfl
theorem nvs_erase : ∀ (L : List Nat) (v : Nat), (nvs L).eraseIdx v = nvs (L.eraseIdx v)
  | [], _ => rfl
  | x :: L, 0 => rfl
  | x :: L, v + 1 => by
    show nv x :: (nvs L).eraseIdx v = nv x :: nvs (L.eraseIdx v)
    rw [nvs_erase L v]
theorem erase_perm : ∀ {L : List Nat} {v y : Nat}, L[v]? = some y → (y :: L.eraseIdx v).Perm L
  | [], _, _, h => by simp at h
  | x :: L, 0, y, h => by
    rw [List.getElem?_cons_zero] at h
    cases h
    exact List.Perm.refl _
  | x :: L, v + 1, y, h => by
    rw [List.getElem?_cons_succ] at h
    show (y :: x :: L.eraseIdx v).Perm (x :: L)
    exact (List.Perm.swap x y _).trans ((erase_perm h).cons x)
def RowP (pl : Nat) (q : List Nat) : Prop := q.length = pl ∧ q.Nodup ∧ ∀ x ∈ q, x < pl
theorem rowP_perm {pl : Nat} {q : List Nat} (h : q.Perm (List.range pl)) : RowP pl q :=
  ⟨by rw [h.length_eq, List.length_range], h.nodup_iff.mpr List.nodup_range, fun x hx => List.mem_range.mp (h.mem_iff.mp hx)⟩
section
variable {P : Program} {w : World} {K : PySem.W.Frag} {mg : Str → Option Value} {base : Heap} {f : Addr} {fd : FuncData}
abbrev nLHabit : List Str := ["_law_row", "_law_places", "_law_found", "_law_place", "_law_left", "_law_moved", "_law_k"]
theorem scLHabit : FnScope nLHabit ["_law_row", "_law_places"] (defScope sLHabit) := ⟨rfl, rfl, rfl, by decide +kernel, rfl, by decide +kernel, by decide +kernel⟩
theorem ok_lhabit (F : Fun K "_law_habit" "_law_habit" sLHabit f fd) (B : Bi mg) (cT : Cl P w K mg base CX0 1 "_law_taken" ["_law_row", "_law_many"] (spTaken K)) : FnOk P w K mg base CX0 2 f fd ["_law_row", "_law_places"] (spLHabit K) := by
  obtain ⟨fT, fdT, gT, mgT, kpT, bT⟩ := cT
  refine F.ok scLHabit (fun vs H Q E h => ?_) (fun cdv A outer s H vs Q E hr h => ?_)
  · obtain ⟨a, sc, ns, pl, rfl, _⟩ := h
    rfl
  obtain ⟨a, sc, ns, pl, rfl, p2, p5, hrow, hsc, h63, q⟩ := h
  have big := sizeLine_big
  refine ⟨_, pss_cons (ps_set (i := 2) scLHabit.nd rfl (.inl rfl) (pe_lstN pa_nil))
    (pss_cons (ps_for PassesOwn.never rfl (pi_range1 rfl B.range (pa_cons (pv 1) pa_nil)) (pg_name (i := 3) scLHabit.nd rfl (.inl rfl))
      (pss_cons (ps_par (i := 4) (j := 5) rfl scLHabit.nd rfl rfl (by decide) rfl rfl (pa_cons (pe_listR1 rfl rfl B.list rfl B.range (pv 1)) (pa_cons (pe_lstN pa_nil) pa_nil)) rfl)
      (pss_cons (ps_for PassesOwn.never rfl (pi_range1 rfl B.range (pa_cons (pv 1) pa_nil)) (pg_name (i := 6) scLHabit.nd rfl (.inl rfl))
        (pss_one (ps_expr (pe_bm PySem.F.plainAttrs_list PySem.F.slot_list_append PySem.F.type_list_append mt_appN (pv 5) (pa_cons (pe_bm PySem.F.plainAttrs_list PySem.F.slot_list_pop PySem.F.type_list_pop mt_popAt (pv 4) (pa_cons (pe_call gT hr rfl mgT kpT bT .nil pass0 (pa_cons (pv 0) (pa_cons (pe_callB call_len_seq rfl B.len boot_len (pa_cons (pv 4) pa_nil)) pa_nil))) pa_nil)) pa_nil)))))
      (pss_one (ps_expr (pe_bm PySem.F.plainAttrs_list PySem.F.slot_list_append PySem.F.type_list_append mt_appN (pv 2) (pa_cons (pe_ifExp (pt_cmpR op_gt (pe_call gT hr rfl mgT kpT bT .nil pass0 (pa_cons (pv 0) (pa_cons pe_int pa_nil))) pe_int (nomark _)) (pe_callTy call_tupL rfl B.tuple boot_tuple (pa_cons (pv 5) pa_nil)) (pe_tupR1 rfl rfl B.tuple rfl B.range (pv 1))) pa_nil)))))))
    (pss_one (ps_ret (pe_callTy call_tupL rfl B.tuple boot_tuple (pa_cons (pv 2) pa_nil))))), ?_⟩
  refine ⟨Nat.zero_le _, fun fa H1 hfa k1 e1 => ?_⟩
  have nfa : a ≠ fa := fun z => by
    obtain ⟨_, _, _, e, _⟩ := hrow
    rw [z, hfa] at e
    cases e
  have rowK : ∀ {xs : List Addr} {G1 G2 : Hp}, RowAt G1 a sc → Kp xs G1 G2 → a ∉ xs → RowAt G2 a sc := fun ⟨i, s0, r, e, z⟩ k hx => ⟨i, s0, r, k.lst e hx, z⟩
  refine ⟨_, rfl, pl, rfl, by omega, by omega, ?_⟩
  refine for_range (n := pl) (fun j σ H' => ∃ F b c d e, σ = [some (.ref a), some (nv pl), some (.ref fa), b, c, d, e] ∧ Kp [fa, a] H1 H' ∧ LT H' fa F ∧ RowAt H' a sc ∧ F.length = j ∧ ∀ q ∈ F, RowP pl q)
    ⟨[], none, none, none, none, rfl, Kp.refl _, LT.nil e1, rowK hrow k1 (by simp), rfl, fun _ h => (List.not_mem_nil h).elim⟩ ?_ ?_
  · rintro j σ H2 hj ⟨F, b, c, d, e, rfl, k2, lt2, row2, hF, hFr⟩
    have rok : RgOk 0 (pl : Int) := ⟨by omega, by omega, by omega, by omega, by omega⟩
    refine ⟨_, rfl, _, rfl, rok, fun la H3 hla k3 e3 => ⟨Nat.zero_le _, fun ma H4 hma k4 e4 => ⟨_, _, rfl, ?_⟩⟩⟩
    rw [rgV_nvs] at e3
    have nlm : la ≠ ma := ne_of_none e3 hma
    have e3 := k4.lst e3 (by simp)
    have ala : a ≠ la := fun z => by
      obtain ⟨_, _, _, e, _⟩ := row2
      rw [z, hla] at e
      cases e
    have row3 := rowK row2 k3 (by simp)
    have ama : a ≠ ma := fun z => by
      obtain ⟨_, _, _, e, _⟩ := row3
      rw [z, hma] at e
      cases e
    have lt4 := (lt2.kp k3 (by simp)).kp k4 (by simp)
    have k24 : Kp [fa, a] H1 H4 := k2.trans (k3.up.trans k4.up)
    refine ⟨_, rfl, pl, rfl, by omega, by omega, ?_⟩
    refine for_range (n := pl) (fun i σ H' => ∃ L M e, σ = [some (.ref a), some (nv pl), some (.ref fa), some (.int (0 + (j : Nat))), some (.ref la), some (.ref ma), e] ∧ Kp [la, ma, a] H4 H' ∧ H' la = some (.lst (nvs L)) ∧ H' ma = some (.lst (nvs M)) ∧ RowAt H' a sc ∧ M.length = i ∧ (M ++ L).Perm (List.range pl))
      ⟨List.range pl, [], e, rfl, Kp.refl _, e3, e4, rowK row3 k4 (by simp), rfl, List.Perm.refl _⟩ ?_ ?_
    · rintro i σ H5 hi ⟨L, M, e, rfl, k5, eL, eM, row5, hM, pm⟩
      have hlen : M.length + L.length = pl := by
        have := pm.length_eq
        rw [List.length_append, List.length_range] at this
        exact this
      have kk5 : Kp [a] H H5 := by
        have z1 : Kp [fa, a] H1 H5 := by
          have z2 : Kp [la, ma, a] H2 H5 := (k3.up.trans k4.up).trans k5
          have z3 : Kp [ma, a] H2 H5 := z2.drop hla
          have z4 : Kp [a] H2 H5 := z3.drop (k3.dom _ hma)
          exact k2.trans (z4.mono (by simp))
        exact (k1.up.trans z1).drop hfa
      refine ⟨_, rfl, .inl ⟨rfl, _, SqL.of eM⟩, _, rfl, .inl ⟨rfl, _, SqL.of eL⟩, _, rfl, _, rfl, la, _, rfl, .inl (SqL.of eL), a, sc, ns, L.length, by rw [nvs_length]; rfl, by omega, by omega, row5, hsc.kp kk5, h63, fun v H6 hv k6 row6 => ?_⟩
      have eL6 := k6.lst eL (by simp [ala.symm])
      have eM6 := k6.lst eM (by simp [ama.symm])
      obtain ⟨y, hy⟩ : ∃ y, L[v]? = some y := ⟨L[v], List.getElem?_eq_getElem hv⟩
      refine ⟨la, nvs L, (v : Int), v, nv y, rfl, rfl, eL6, by omega, by omega, by rw [nvs_length]; exact seqIx hv, nvs_get hy, ?_⟩
      have k7 : Kp [la, ma, a] H6 (upd H6 la (.lst ((nvs L).eraseIdx v))) := Kp.put (by rw [eL6]; trivial) (by simp) _
      refine ⟨ma, nvs M, nv y, rfl, rfl, by rw [upd_ne nlm.symm]; exact eM6, by rw [nvs_length]; omega, fun H8 k8 e8 => ?_⟩
      refine ⟨L.eraseIdx v, M ++ [y], _, rfl, k5.trans ((k6.mono (by simp)).trans (k7.trans (k8.mono (by simp)))), ?_, ?_, ?_, by rw [List.length_append, hM]; rfl, ?_⟩
      · rw [k8.lst (b := la) (by rw [upd_same]) (by simp [nlm]), nvs_erase]
      · rw [e8, nvs_app]
        rfl
      · obtain ⟨i', s', r', er, z⟩ := row6
        exact ⟨i', s', r', k8.lst (by rw [upd_ne ala]; exact er) (by simp [ama]), z⟩
      · have z := (erase_perm hy).append_left M
        rw [List.append_assoc]
        exact z.trans pm
    · rintro σ H5 ⟨L, M, e0, rfl, k5, eL, eM, row5, hM, pm⟩
      have hL : L = [] := by
        have := pm.length_eq
        rw [List.length_append, List.length_range] at this
        exact List.eq_nil_of_length_eq_zero (by omega)
      subst hL
      rw [List.append_nil] at pm
      have kk25 : Kp [a] H2 H5 := by
        have z2 : Kp [la, ma, a] H2 H5 := (k3.up.trans k4.up).trans k5
        have z3 : Kp [ma, a] H2 H5 := z2.drop hla
        exact z3.drop (k3.dom _ hma)
      have lt5 : LT H5 fa F := lt2.kp kk25 (by simp [nfa.symm])
      have kk15 : Kp [fa, a] H1 H5 := k2.trans (kk25.mono (by simp))
      obtain ⟨asF, eF, _⟩ := id lt5
      refine ⟨_, rfl, .inl ⟨rfl, _, SqL.of eF⟩, ?_⟩
      have kk5 : Kp [a] H H5 := (k1.up.trans kk15).drop hfa
      refine ⟨_, rfl, a, sc, ns, 4, rfl, by omega, by omega, row5, hsc.kp kk5, h63, fun v H6 hv k6 row6 => ?_⟩
      have lt6 : LT H6 fa F := lt5.kp k6 (by simp [nfa.symm])
      have eM6 := k6.lst eM (by simp [ama.symm])
      have kk16 : Kp [fa, a] H1 H6 := kk15.trans (k6.mono (by simp))
      have fin : ∀ (G : List Nat) (p : Addr) (H7 : Hp), RowP pl G → Kp [] H6 H7 → H7 p = some (.tup (nvs G)) → rAppN (.ref fa) [.ref p] H7 fun _ H8 => ∃ F b c d e, [some (.ref a), some (nv pl), some (.ref fa), some (V.int (0 + (j : Nat))), some (.ref la), some (.ref ma), e0] = [some (.ref a), some (nv pl), some (.ref fa), b, c, d, e] ∧ Kp [fa, a] H1 H8 ∧ LT H8 fa F ∧ RowAt H8 a sc ∧ F.length = j + 1 ∧ ∀ q ∈ F, RowP pl q := by
        intro G p H7 hG k7 e7
        obtain ⟨xs, ex, hz, put⟩ := (lt6.kp k7 (by simp)).app (b := p) (m := G) e7 (by omega)
        refine ⟨fa, xs, _, rfl, rfl, ex, hz, fun H8 k8 e8 => ?_⟩
        obtain ⟨_, lt8⟩ := put H8 k8 e8
        refine ⟨F ++ [G], _, _, _, _, rfl, kk16.trans (k7.up.trans (k8.mono (by simp))), lt8, rowK (rowK row6 k7 (by simp)) k8 (by simp [nfa]), by rw [List.length_append, hF]; rfl, fun q hq => ?_⟩
        rcases List.mem_append.mp hq with z | z
        · exact hFr q z
        · rw [List.mem_singleton.mp z]
          exact hG
      refine ⟨_, _, rfl, rfl, _, rfl, ite2 (fun _ => ?_) (fun _ => ?_)⟩
      · exact ⟨_, rfl, ma, _, rfl, eM6, fun p H7 hp k7 e7 => fin M p H7 (rowP_perm pm) k7 e7⟩
      · refine ⟨_, rfl, _, rfl, rok, fun p H7 hp k7 e7 => ?_⟩
        rw [rgV_nvs] at e7
        exact fin (List.range pl) p H7 (rowP_perm (List.Perm.refl _)) k7 e7
  · rintro σ H2 ⟨F, b, c, d, e, rfl, k2, ⟨asF, eF, pF⟩, row2, hF, hFr⟩
    refine ⟨_, rfl, fa, _, rfl, eF, fun p H3 hp k3 e3 => ?_⟩
    have kk : Kp [a] H H3 := (k1.up.trans (k2.trans k3.up)).drop hfa
    exact q p F H3 kk (rowK row2 k3 (by simp)) ⟨asF, e3, pF.st k3.tup⟩ ⟨hF, hFr⟩
end
end Rs


set_option Elab.async false
set_option linter.all false
set_option maxRecDepth 100000
set_option maxHeartbeats 4000000
namespace Rs
open PySem PySem.Spec PyProof.Rows L2
abbrev sLTests : Stmt := topS 36
/-- an entry of the row -/
def RR (H : Hp) (v : V) (e : Nat × (List Nat × List Nat)) : Prop := ∃ a b c, v = .ref a ∧ H a = some (.tup [nv e.1, .ref b, .ref c]) ∧ TN H b e.2.1 ∧ TN H c e.2.2
theorem RR.st {H H' : Hp} {v : V} {e : Nat × (List Nat × List Nat)} (k : Tk H H') (h : RR H v e) : RR H' v e := by
  obtain ⟨a, b, c, ev, h1, h2, h3⟩ := h
  exact ⟨a, b, c, ev, k _ _ h1, k _ _ h2, k _ _ h3⟩
def LRow (H : Hp) (l : Addr) (R : RD) : Prop := ∃ vs, H l = some (.lst vs) ∧ Paired (fun v e => RR H v e) vs R
theorem LRow.kp {xs : List Addr} {H H' : Hp} {l : Addr} {R : RD} (h : LRow H l R) (k : Kp xs H H') (hx : l ∉ xs) : LRow H' l R := by
  obtain ⟨vs, e, p⟩ := h
  exact ⟨vs, k.lst e hx, paired_imp p fun v e z => z.st k.tup⟩
theorem LRow.app {H : Hp} {l : Addr} {R : RD} {v : V} {e : Nat × (List Nat × List Nat)} (h : LRow H l R) (hv : RR H v e) (z : R.length < sizeLine) :
    ∃ xs, H l = some (.lst xs) ∧ xs.length < sizeLine ∧ PutAt H l (.lst (xs ++ [v])) fun H' => Kp [l] H H' ∧ LRow H' l (R ++ [e]) := by
  obtain ⟨vs, ev, p⟩ := h
  refine ⟨vs, ev, by rw [Paired.length p]; exact z, fun H' k e' => ⟨k, vs ++ [v], e', ?_⟩⟩
  exact paired_snoc (paired_imp p fun v e z => z.st k.tup) (hv.st k.tup)
def rD (e : Nat × (List Nat × List Nat)) : PyData := .tuple [.int e.1, nD e.2.1, nD e.2.2]
theorem dp_row {K : PySem.W.Frag} {H : Hp} {vs : List V} {R : RD} (p : Paired (fun v e => RR H v e) vs R) : DpAll K H vs (R.map rD) := by
  induction p with
  | nil => exact .nil
  | cons r t ih =>
    obtain ⟨a, b, c, rfl, h1, h2, h3⟩ := r
    exact .cons (.tup (SqT.of h1) (.cons (.int _) (.cons (dp_n h2) (.cons (dp_n h3) .nil)))) ih
theorem rD_lay : ∀ R : RD, PyData.canLayAll0 (R.map rD) = true
  | [] => by simp [PyData.canLayAll0]
  | e :: R => by
    have ih := rD_lay R
    rw [List.map_cons]
    simp only [PyData.canLayAll0, rD, PyData.canLay0, nD_lay, Bool.and_true, Bool.true_and]
    exact ih
theorem rD_depth : ∀ R : RD, PyData.depthAll (R.map rD) ≤ 2
  | [] => by simp [PyData.depthAll]
  | e :: R => by
    have ih := rD_depth R
    have h1 := nD_depth e.2.1
    have h2 := nD_depth e.2.2
    have z : (rD e).depth ≤ 2 := by
      show (PyData.tuple [.int e.1, nD e.2.1, nD e.2.2]).depth ≤ 2
      simp only [PyData.depth, PyData.depthAll]
      omega
    rw [List.map_cons]
    show max (rD e).depth (PyData.depthAll (R.map rD)) ≤ 2
    omega
theorem rDs_shaped (R : RD) : SeqAt.shaped (.list (R.map rD)) = true := shaped_of (by
  simp only [PyData.canLay0]
  exact rD_lay R) (by
  have := rD_depth R
  simp only [PyData.depth]
  omega)
theorem rDs_nil (R : RD) : PyData.eqv (.list (R.map rD)) (.list []) = decide (R = []) := by
  cases R with
  | nil => simp [PyData.eqv, PyData.eqvAll]
  | cons m L => simp [PyData.eqv, PyData.eqvAll]
def spLTests : Sp := fun vs H Q _ => ∃ ha la ga hs pl lot g, vs = [.ref ha, .ref la, .ref ga] ∧ Good hs pl lot ∧ Grp hs g ∧ HabsAt H ha hs ∧ TN H la lot ∧ TN H ga g ∧
  ∀ d F H', H d = none → Kp [] H H' → DA RT H' d F → LS hs lot g F → Q (.ref d) H'
section
variable {P : Program} {w : World} {K : PySem.W.Frag} {mg : Str → Option Value} {base : Heap} {f : Addr} {fd : FuncData}
abbrev nLTests : List Str := ["_law_habits", "_law_lot", "_law_group", "_law_found", "_law_row", "_law_seen", "_law_longer", "_law_place", "_law_word", "_law_marks", "_law_read", "_law_part", "_law_touch", "_law_moved", "_law_k"]
theorem scLTests : FnScope nLTests ["_law_habits", "_law_lot", "_law_group"] (defScope sLTests) := ⟨rfl, rfl, rfl, by decide +kernel, rfl, by decide +kernel, by decide +kernel⟩
theorem ok_ltests (F : Fun K "_law_tests" "_law_tests" sLTests f fd) (B : Bi mg) : FnOk P w K mg base CX0 1 f fd ["_law_habits", "_law_lot", "_law_group"] spLTests := by
  refine F.ok scLTests (fun vs H Q E h => ?_) (fun cdv A outer s H vs Q E hr h => ?_)
  · obtain ⟨ha, la, ga, hs, pl, lot, g, rfl, _⟩ := h
    rfl
  obtain ⟨ha, la, ga, hs, pl, lot, g, rfl, G, hg, hh, hl, hgr, q⟩ := h
  have hu := hu_of hr
  have hu64 := hr.units
  have hu65 : (A.deeper (envOfC "_law_tests" (defScope sLTests) s.heap.objs.size f cdv)).units + 65 < cLine := by have := hr.un; omega
  have nd := scLTests.nd
  refine ⟨_, pss_cons (ps_par3 (i := 3) (j := 4) (l := 5) rfl nd rfl rfl rfl (by decide) (by decide) (by decide) rfl rfl rfl (pa_cons pe_dctN (pa_cons
        (pe_lc (own := [("_law_place", 7)]) (g := gName 7) (tt := tYes)
          (te := tTupN (tCons (tVar 7) (tCons (tTupN tNil) (tCons (tCB rTupL (tCons (tLc (iTup K (tVar 2)) (gName 14) tYes (tOp (rIxT K) (tOp (rIxT K) (tOp (rIxT K) (tVar 0) (tVar 14)) (tVar 7)) (tVar 7)) [14]) tNil)) tNil))))
          rfl nd (pi_tup (pv 1)) (blkOk_by (own := [("_law_place", 7)]) (N := nLTests) (sc := defScope sLTests) (by decide +kernel)) (fun _ _ _ _ _ => pg_name (i := 7) nd rfl (.inr rfl)) (fun _ _ _ _ _ => pts_nil)
          (fun _ _ _ _ _ => pe_tupN (pa_cons (pv 7) (pa_cons (pe_tupN pa_nil) (pa_cons (pe_callTy call_tupL rfl B.tuple boot_tuple (pa_cons
            (pe_lc (own := [("_law_k", 14)]) (g := gName 14) (tt := tYes) (wi := iTup K (tVar 2)) rfl nd (pi_tup (pv 2)) (blkOk_by (own := [("_law_k", 14)]) (N := nLTests) (sc := _) (by rfl)) (fun _ _ _ _ _ => pg_name (i := 14) nd rfl (.inl rfl)) (fun _ _ _ _ _ => pts_nil)
              (fun _ _ _ _ _ => pe_ix (r := rIxT K) ix_tup (pe_ix (r := rIxT K) ix_tup (pe_ix (r := rIxT K) ix_tup (pv 0) (pv 14) (fun _ _ => rfl)) (pv 7) (fun _ _ => rfl)) (pv 7) (fun _ _ => rfl))) pa_nil)) pa_nil)))))
        (pa_cons (pe_lstN pa_nil) pa_nil))) rfl)
    (pss_cons (ps_while PassesOwn.never (pt_cmpR (op_neD hu64) (pv 4) (pe_lstN pa_nil) (nomark _))
      (pss_cons (ps_set (i := 6) nd rfl (.inl rfl) (pe_lstN pa_nil))
      (pss_cons (ps_for PassesOwn.never rfl (pi_list (pv 4)) (pg_tup rfl (pgs_cons (pg_name (i := 7) nd rfl (.inl rfl)) (pgs_cons (pg_name (i := 8) nd rfl (.inl rfl)) (pgs_cons (pg_name (i := 9) nd rfl (.inr rfl)) pgs_nil))))
        (pss_one (ps_if (pt_cmpR (op_notInD hu65) (pv 9) (pv 5) rfl)
          (pss_cons (ps_expr (pe_bm PySem.F.plainAttrs_list PySem.F.slot_list_append PySem.F.type_list_append mt_appN (pv 5) (pa_cons (pv 9) pa_nil)))
          (pss_cons (ps_for PassesOwn.never rfl (pi_tup (pv 1)) (pg_name (i := 10) nd rfl (.inr rfl))
            (pss_cons (ps_set (i := 11) nd rfl (.inl rfl) (pe_callTy call_tupL rfl B.tuple boot_tuple (pa_cons (pe_lc (own := [("_law_k", 14)]) (g := gName 14) (tt := tTest (tOp rEq (tOp (rIxT K) (tVar 9) (tVar 14)) (tVar 10))) (te := tOp (rIxT K) (tVar 2) (tVar 14)) rfl nd (pi_range1 rfl B.range (pa_cons (pe_callB call_len_seq rfl B.len boot_len (pa_cons (pv 2) pa_nil)) pa_nil)) (blkOk_by (own := [("_law_k", 14)]) (N := nLTests) (sc := defScope sLTests) (by decide +kernel))
                (fun _ _ _ _ _ => pg_name (i := 14) nd rfl (.inl rfl)) (fun _ _ _ _ _ => pts_one (pt_cmpR op_eq (pe_ix (r := rIxT K) ix_tup (pv 9) (pv 14) (fun _ _ => rfl)) (pv 10) (nomark _))) (fun _ _ _ _ _ => pe_ix (r := rIxT K) ix_tup (pv 2) (pv 14) (fun _ _ => rfl))) pa_nil)))
            (pss_one (ps_if (pt_cmp (pc_dnotin hu (pv 11) (pv 3))) (pss_one (ps_dput hu (pv 3) (pv 11) (pe_tupN (pa_cons (pv 7) (pa_cons (pv 8) (pa_cons (pv 10) pa_nil)))) rfl)) pss_nil))))
          (pss_one (ps_for PassesOwn.never rfl (pi_tup (pv 1)) (pg_name (i := 12) nd rfl (.inr rfl))
            (pss_cons (ps_set (i := 13) nd rfl (.inl rfl) (pe_callTy call_tupL rfl B.tuple boot_tuple (pa_cons (pe_lc (own := [("_law_k", 14)]) (g := gName 14) (tt := tYes) (te := tOp (rIxT K) (tOp (rIxT K) (tOp (rIxT K) (tVar 0) (tOp (rIxT K) (tVar 2) (tVar 14))) (tVar 12)) (tOp (rIxT K) (tVar 9) (tVar 14))) rfl nd (pi_range1 rfl B.range (pa_cons (pe_callB call_len_seq rfl B.len boot_len (pa_cons (pv 2) pa_nil)) pa_nil)) (blkOk_by (own := [("_law_k", 14)]) (N := nLTests) (sc := defScope sLTests) (by decide +kernel))
                (fun _ _ _ _ _ => pg_name (i := 14) nd rfl (.inl rfl)) (fun _ _ _ _ _ => pts_nil) (fun _ _ _ _ _ => pe_ix (r := rIxT K) ix_tup (pe_ix (r := rIxT K) ix_tup (pe_ix (r := rIxT K) ix_tup (pv 0) (pe_ix (r := rIxT K) ix_tup (pv 2) (pv 14) (fun _ _ => rfl)) (fun _ _ => rfl)) (pv 12) (fun _ _ => rfl)) (pe_ix (r := rIxT K) ix_tup (pv 9) (pv 14) (fun _ _ => rfl)) (fun _ _ => rfl))) pa_nil)))
            (pss_one (ps_expr (pe_bm PySem.F.plainAttrs_list PySem.F.slot_list_append PySem.F.type_list_append mt_appN (pv 6) (pa_cons (pe_tupN (pa_cons (pv 7) (pa_cons (pe_op op_catTN (pv 8) (pe_tupN (pa_cons (pv 12) pa_nil))) (pa_cons (pv 13) pa_nil)))) pa_nil))))))))) pss_nil)))
      (pss_one (ps_set (i := 4) nd rfl (.inl rfl) (pv 6))))))
    (pss_one (ps_ret (pv 3)))), ?_⟩
  have big := sizeLine_big
  have g5 : g.length ≤ 5 := Nat.le_trans hg.len G.h5
  have l5 := G.lot_le
  refine fun d H1 hd k1 e1 => ?_
  have hh1 := hh.st k1.tup
  have hl1 := k1.tup _ _ hl
  have hgr1 := k1.tup _ _ hgr
  refine ⟨_, rfl, la, rfl, ⟨_, SqT.of hl1⟩, fun Cr hCr => lcN walk_tup [] (fun i vs H' => Paired (fun v e => RR H' v e) vs ((lot.take i).map fun p => (p, ([], marks hs g p [])))) hCr (fun _ _ => .nil) (fun i l H _ k _ => SqT.of (k.tup _ _ hl1)) ?_ ?_⟩
  · rintro i x l H2 H2' hi k2 e2 jv ⟨rfl, hx⟩
    obtain ⟨p, hp, rfl⟩ := nvs_at hx
    have hpl := G.lt p (List.mem_of_getElem? hp)
    refine ⟨rfl, _, rfl, Nat.zero_le _, fun pw H3 hpw k3 e3 => ?_⟩
    have k23 : Kp [Cr] H1 H3 := k2.trans k3.up
    refine ⟨_, rfl, ga, rfl, ⟨_, SqT.of (k23.tup _ _ hgr1)⟩, fun Ck hCk => lcN walk_tup [] (fun j l _ => l = nvs (marks hs (g.take j) p [])) hCk (fun _ _ => rfl) (fun j l H _ k _ => SqT.of (k.tup _ _ (k23.tup _ _ hgr1))) ?_ ?_⟩
    · rintro j x l5 H4 H5 hj k4 e4 rfl ⟨rfl, hx⟩
      obtain ⟨n, hn, rfl⟩ := nvs_at hx
      obtain ⟨zs, c, xs, b5, ys, a1, a2, a3, a4, a5, a6⟩ := habs_at G ((hh1.st k23.tup).st k4.tup) (hg.lt (List.mem_of_getElem? hn)) hpl hpl
      refine ⟨rfl, _, rfl, _, rfl, ha, zs, _, _, rfl, rfl, SqT.of a1, a2, _, rfl, c, xs, _, _, rfl, rfl, SqT.of a3, a4, _, rfl, b5, ys, _, _, rfl, rfl, SqT.of a5, a6, PvL.add k4 e4 ?_ fun H5 k5 => (marks_step hn).symm⟩
      rw [nvs_length, marks_length, List.length_take]
      omega
    · rintro l4 H4 k4 e4 rfl
      rw [nvs_length, List.take_length] at e4
      refine ⟨Ck, _, rfl, e4, fun qm H5 hqm k5 e5 => ⟨by show 3 ≤ _; omega, fun pt H6 hpt k6 e6 => ?_⟩⟩
      have k26 : Kp [] H2' H6 := k3.trans (k4.trans (k5.trans k6))
      refine PvL.add (k2.trans k26.up) (k26.lst e2 (by simp)) ?_ fun H7 k7 => ?_
      · rw [Paired.length jv, List.length_map, List.length_take]
        omega
      · rw [take_snoc hp, List.map_append]
        have rr : RR H6 (.ref pt) (p, ([], marks hs g p [])) := ⟨pt, pw, qm, rfl, e6, k6.tup _ _ (k5.tup _ _ (k4.tup _ _ e3)), k6.tup _ _ e5⟩
        exact paired_snoc (paired_imp jv fun v e z => z.st (k26.tup.trans k7.tup)) (rr.st k7.tup)
  · rintro vs0 H2 k2 e2 jv
    rw [nvs_length, List.take_length] at jv
    refine ⟨Nat.zero_le _, fun sl H3 hsl k3 e3 => ⟨_, _, _, rfl, ?_⟩⟩
    have k13 : Kp [] H1 H3 := k2.trans k3
    have nds : d ≠ sl := ne_of_none (k2.dct e1 (by simp)) hsl
    have hh3 := hh1.st k13.tup
    have hl3 := k13.tup _ _ hl1
    have hgr3 := k13.tup _ _ hgr1
    have row3 : LRow H3 Cr (lot.map fun p => (p, ([], marks hs g p []))) := ⟨vs0, k3.lst e2 (by simp), paired_imp jv fun v e z => z.st k3.tup⟩
    have ncs : Cr ≠ sl := ne_of_none e2 hsl
    have ncd : Cr ≠ d := fun z => by rw [z, k2.dct e1 (by simp)] at e2; cases e2
    refine while_n 4000 (fun n σ H' => ∃ R Sn F rl b6 b7 b8 b9 b10 b11 b12 b13, σ = [some (.ref ha), some (.ref la), some (.ref ga), some (.ref d), some (.ref rl), some (.ref sl), b6, b7, b8, b9, b10, b11, b12, b13, none] ∧ Kp [sl, d] H3 H' ∧ DA RT H' d F ∧ LT H' sl Sn ∧ LRow H' rl R ∧ Lv hs lot g n R Sn F ∧ rl ≠ sl ∧ rl ≠ d)
      ⟨_, [], [], Cr, none, none, none, none, none, none, none, none, rfl, Kp.refl _, ⟨[], k13.dct e1 (by simp), .nil⟩, LT.nil e3, row3, Lv.start, ncs, ncd⟩ ?_ (fun σ H Q Q' h q => mono_neNil K h q)
    rintro n σ H4 ⟨R, Sn, F, rl, b6, b7, b8, b9, b10, b11, b12, b13, rfl, k4, dd4, lt4, row4, LV, nrs, nrd⟩
    refine ⟨_, rfl, Nat.zero_le _, fun p5 H5 hp5 k5 e5 => ?_⟩
    have kk5 : Kp [sl, d] H3 H5 := k4.trans k5.up
    have dd5 := dd4.kp (xs := []) RT.stb k5 (by simp)
    have lt5 := lt4.kp k5 (by simp)
    obtain ⟨vs, evs, pvs⟩ := row4.kp k5 (by simp)
    refine ⟨.list (R.map rD), .list [], .lst (SqL.of evs) (dp_row pvs), dp_lnil e5, rDs_shaped R, lnil_shaped, _, rfl, ?_⟩
    rw [rDs_nil]
    by_cases hR : R = []
    · rw [decide_eq_true hR]
      subst hR
      have k0 : Kp [sl, d] H H5 := (k1.trans k13).up.trans kk5
      exact ⟨_, rfl, q d F H5 hd ((k0.drop (k1.dom _ (k2.dom _ hsl))).drop hd) dd5 LV.fin⟩
    · rw [decide_eq_false hR]
      have hSn := LV.few G hg
      refine ⟨by have := LV.cnt hR; omega, Nat.zero_le _, fun ll H6 hll k6 e6 => ?_⟩
      have kk6 : Kp [sl, d] H3 H6 := kk5.trans k6.up
      have nld : d ≠ ll := by
        obtain ⟨_, z, _⟩ := dd5
        exact ne_of_none z hll
      have nls : sl ≠ ll := by
        obtain ⟨_, z, _⟩ := lt5
        exact ne_of_none z hll
      have nlr : rl ≠ ll := ne_of_none evs hll
      have evs6 := k6.lst evs (by simp)
      have pvs6 := paired_imp pvs fun v e z => RR.st k6.tup z
      refine ⟨_, rfl, rl, rfl, ⟨_, SqL.of evs6⟩, ?_⟩
      refine for_list (K := K) (a := rl) (xs := vs) (fun k σ H' => ∃ Sn' F' X b7 b8 b9 b10 b11 b12 b13, σ = [some (.ref ha), some (.ref la), some (.ref ga), some (.ref d), some (.ref rl), some (.ref sl), some (.ref ll), b7, b8, b9, b10, b11, b12, b13, none] ∧ Kp [ll, sl, d] H6 H' ∧ DA RT H' d F' ∧ LT H' sl Sn' ∧ LRow H' ll X ∧ Rn hs lot g n R Sn F k Sn' F' X)
        ⟨Sn, F, [], b7, b8, b9, b10, b11, b12, b13, rfl, Kp.refl _, dd5.kp RT.stb k6 (by simp), lt5.kp k6 (by simp), ⟨[], e6, .nil⟩, Rn.start LV⟩ (fun k σ H' _ ⟨_, _, _, _, _, _, _, _, _, _, _, k, _⟩ => SqL.of (k.lst evs6 (by simp [nlr, nrs, nrd]))) ?_ ?_
      · rintro k x σ H7 hx ⟨Sn', F', X, b7, b8, b9, b10, b11, b12, b13, rfl, k7, dd7, lt7, row7, N⟩
        obtain ⟨⟨p, w0, m⟩, hRk, a, b, c, rfl, h1, h2, h3⟩ := paired_get pvs6 hx
        have h1 : H6 a = some (.tup [nv p, .ref b, .ref c]) := h1
        have h2 : TN H6 b w0 := h2
        have h3 : TN H6 c m := h3
        obtain ⟨r1, r2, r3, r4⟩ := LV.row _ (List.mem_of_getElem? hRk)
        have r1 : p ∈ lot := r1
        have r2 : ∀ q ∈ w0, q ∈ lot := r2
        have r3 : w0.length = n := r3
        have r4 : m = marks hs g p w0 := r4
        have hml : m.length = g.length := by rw [r4, marks_length]
        have hmlt : ∀ x ∈ m, x < pl := by rw [r4]; exact marks_lt G hg r1 r2
        refine ⟨a, _, rfl, SqT.of (k7.tup _ _ h1), rfl, _, _, rfl, _, _, rfl, _, _, rfl, rfl, ?_⟩
        refine ⟨_, rfl, _, rfl, nD m, Sn'.map nD, dp_n (k7.tup _ _ h3), dp_nt lt7, nD_shaped m, ntD_shaped Sn', _, rfl, ?_⟩
        rw [ntD_any]
        by_cases hm : m ∈ Sn'
        · rw [decide_eq_true hm]
          exact ⟨Sn', F', X, _, _, _, _, _, _, _, rfl, k7, dd7, lt7, row7, N.skip hRk hm⟩
        · rw [decide_eq_false hm]
          have hSn' := N.few G hg
          obtain ⟨xs, ex, hz, put⟩ := lt7.app (b := c) (m := m) (k7.tup _ _ h3) (by omega)
          refine ⟨_, rfl, .inl ⟨rfl, _, SqL.of ex⟩, _, rfl, sl, xs, _, rfl, rfl, ex, hz, fun H8 k8 e8 => ?_⟩
          obtain ⟨_, lt8⟩ := put H8 k8 e8
          have dd8 := dd7.kp RT.stb k8 (by simp [nds])
          have row8 := row7.kp k8 (by simp [nls.symm])
          have kk8 : Kp [ll, sl, d] H6 H8 := k7.trans (k8.mono (by simp))
          have hl8 := kk8.tup _ _ (kk6.tup _ _ hl3)
          refine ⟨_, rfl, la, rfl, ⟨_, SqT.of hl8⟩, ?_⟩
          refine for_tup (K := K) (a := la) (xs := nvs lot) (fun i σ H' => ∃ F'' b10 b11, σ = [some (.ref ha), some (.ref la), some (.ref ga), some (.ref d), some (.ref rl), some (.ref sl), some (.ref ll), some (nv p), some (.ref b), some (.ref c), b10, b11, b12, b13, none] ∧ Kp [d] H8 H' ∧ DA RT H' d F'' ∧ Rf hs lot g n F' m i F'')
            ⟨F', b10, b11, rfl, Kp.refl _, dd8, Rf.start N m⟩ (fun i σ H' _ ⟨_, _, _, _, k, _⟩ => SqT.of (k.tup _ _ hl8)) ?_ ?_
          · rintro i x σ H9 hx ⟨F'', b10, b11, rfl, k9, dd9, Q9⟩
            obtain ⟨r, hr', rfl⟩ := nvs_at hx
            have hrl : r ∈ lot := List.mem_of_getElem? hr'
            have k69 : Kp [ll, sl, d] H6 H9 := kk8.trans (k9.mono (by simp))
            have hgr9 := k69.tup _ _ (kk6.tup _ _ hgr3)
            have hc9 := k69.tup _ _ h3
            refine ⟨_, rfl, ga, _, rfl, .inr (SqT.of hgr9), _, rfl, by rw [nvs_length]; omega, by rw [nvs_length]; omega, fun C hC => lcN (walk_range (lo := 0)) [] (fun j l _ => l = nvs (part (g.take j) (m.take j) r)) hC (fun _ _ => rfl) (fun _ _ _ _ _ _ => trivial) ?_ ?_⟩
            · rintro j v l5 H10 H11 hj k10 e10 rfl ⟨rfl, rfl⟩
              have hj : j < g.length := by rw [nvs_length] at hj; omega
              have hgj : g[j]? = some g[j] := List.getElem?_eq_getElem hj
              have hmj : m[j]? = some m[j] := List.getElem?_eq_getElem (by omega)
              have ps := part_snoc (r := r) hgj hmj
              have ej : (0 : Int) + ((j : Nat) : Int) = ((j : Nat) : Int) := Int.zero_add _
              refine ⟨rfl, _, rfl, _, rfl, c, nvs m, _, _, rfl, rfl, SqT.of (k10.tup _ _ hc9), by rw [ej]; exact atI_nat (nvs_get hmj), _, rfl, rfl, _, rfl, ite2 (fun z => ?_) (fun z => ?_)⟩
              · have z' : m[j] = r := nv_inj (of_decide_eq_true z)
                refine ⟨_, rfl, _, rfl, ga, nvs g, _, _, rfl, rfl, SqT.of (k10.tup _ _ hgr9), by rw [ej]; exact atI_nat (nvs_get hgj), PvL.add k10 e10 ?_ fun H5 k5 => ?_⟩
                · rw [nvs_length]
                  have := part_len (g.take j) (m.take j) r
                  rw [List.length_take] at this
                  omega
                · rw [ps, if_pos z', nvs_app]
                  rfl
              · have z' : ¬ m[j] = r := fun q => z (decide_eq_true (by rw [q]))
                refine ⟨_, k10, e10, ?_⟩
                show nvs _ = nvs (part (g.take (j + 1)) (m.take (j + 1)) r)
                rw [ps, if_neg z', List.append_nil]
            · rintro l10 H10 k10 e10 rfl
              refine ⟨C, _, rfl, e10, fun qp H11 hqp k11 e11 => ?_⟩
              have e11 : TN H11 qp (part g m r) := by
                have z : (((nvs g).length : Nat) : Int).toNat = g.length := by rw [nvs_length]; omega
                rw [z, List.take_length, ← hml, List.take_length] at e11
                exact e11
              have k911 : Kp [] H9 H11 := k10.trans k11
              have dd11 := dd9.kp RT.stb k911 (by simp)
              obtain ⟨o, hget, hcs⟩ := dd11.dr.get e11
              have hF'' : F''.length ≤ 32 := fen_few hg G.h5 Q9.fnd fun f hf => (Q9.fen f hf).2.1
              refine ⟨_, rfl, _, rfl, d, o, rfl, hget, _, rfl, ?_⟩
              rcases hcs with ⟨rfl, hno⟩ | ⟨v, xx, rfl, hxx, _⟩
              · refine ⟨_, rfl, _, rfl, _, rfl, by show 3 ≤ _; omega, fun p1 H12 hp1 k12 e12 => ?_⟩
                obtain ⟨H13, hput, k13', dd13⟩ := (dd11.kp (xs := []) RT.stb k12 (by simp)).put (x := (⟨p, w0, r⟩ : Ts)) (v := .ref p1) RT.stb (k12.tup _ _ e11) ⟨p1, rfl, b, e12, k12.tup _ _ (k911.tup _ _ (k69.tup _ _ h2))⟩ (by omega)
                exact ⟨_, rfl, _, rfl, d, H13, rfl, hput, _, _, _, rfl, k9.trans ((k911.trans k12).up.trans k13'), dd13, Q9.new hr' r1 r2 r4 r3 (lk_none hno)⟩
              · exact ⟨F'', _, _, rfl, k9.trans k911.up, dd11, Q9.old hr' (List.mem_map.mpr ⟨_, lk_some hxx, rfl⟩)⟩
          · rintro σ H9 ⟨F'', b10, b11, rfl, k9, dd9, Q9⟩
            rw [nvs_length] at Q9
            have k69 : Kp [ll, sl, d] H6 H9 := kk8.trans (k9.mono (by simp))
            have lt9 := lt8.kp k9 (by simp [nds.symm])
            have row9 := row8.kp k9 (by simp [nld.symm])
            have hl9 := k69.tup _ _ (kk6.tup _ _ hl3)
            refine ⟨_, rfl, la, rfl, ⟨_, SqT.of hl9⟩, ?_⟩
            refine for_tup (K := K) (a := la) (xs := nvs lot) (fun i σ H' => ∃ b12 b13, σ = [some (.ref ha), some (.ref la), some (.ref ga), some (.ref d), some (.ref rl), some (.ref sl), some (.ref ll), some (nv p), some (.ref b), some (.ref c), b10, b11, b12, b13, none] ∧ Kp [ll] H9 H' ∧ LRow H' ll (X ++ ext hs g p w0 m (lot.take i)))
              ⟨b12, b13, rfl, Kp.refl _, by show LRow H9 ll (X ++ []); rw [List.append_nil]; exact row9⟩ (fun i σ H' _ ⟨_, _, _, k, _⟩ => SqT.of (k.tup _ _ hl9)) ?_ ?_
            · rintro i x σ H10 hx ⟨b12, b13, rfl, k10, row10⟩
              obtain ⟨t, ht, rfl⟩ := nvs_at hx
              have htl := G.lt t (List.mem_of_getElem? ht)
              have k610 : Kp [ll, sl, d] H6 H10 := k69.trans (k10.mono (by simp))
              have hgr10 := k610.tup _ _ (kk6.tup _ _ hgr3)
              have hc10 := k610.tup _ _ h3
              have hh10 := hh3.st (kk6.tup.trans k610.tup)
              refine ⟨_, rfl, ga, _, rfl, .inr (SqT.of hgr10), _, rfl, by rw [nvs_length]; omega, by rw [nvs_length]; omega, fun C hC => lcN (walk_range (lo := 0)) [] (fun j l _ => l = nvs (mv hs (g.take j) t (m.take j))) hC (fun _ _ => rfl) (fun _ _ _ _ _ _ => trivial) ?_ ?_⟩
              · rintro j v l5 H11 H12 hj k11 e11 rfl ⟨rfl, rfl⟩
                have hj : j < g.length := by rw [nvs_length] at hj; omega
                have hgj : g[j]? = some g[j] := List.getElem?_eq_getElem hj
                have hmj : m[j]? = some m[j] := List.getElem?_eq_getElem (by omega)
                have ej : (0 : Int) + ((j : Nat) : Int) = ((j : Nat) : Int) := Int.zero_add _
                obtain ⟨zs, c', xs, b5, ys, a1, a2, a3, a4, a5, a6⟩ := habs_at G (hh10.st k11.tup) (hg.lt (List.getElem_mem hj)) htl (hmlt _ (List.getElem_mem (by omega : j < m.length)))
                refine ⟨rfl, _, rfl, _, rfl, _, rfl, ga, nvs g, _, _, rfl, rfl, SqT.of (k11.tup _ _ hgr10), by rw [ej]; exact atI_nat (nvs_get hgj), ha, zs, _, _, rfl, rfl, SqT.of a1, a2, _, rfl, c', xs, _, _, rfl, rfl, SqT.of a3, a4, _, rfl, _, rfl, c, nvs m, _, _, rfl, rfl, SqT.of (k11.tup _ _ hc10), by rw [ej]; exact atI_nat (nvs_get hmj), b5, ys, _, _, rfl, rfl, SqT.of a5, a6, PvL.add k11 e11 ?_ fun H5 k5 => ?_⟩
                · rw [nvs_length]
                  have := mv_len hs (g.take j) t (m.take j)
                  rw [List.length_take] at this
                  omega
                · rw [mv_snoc hs hgj hmj, nvs_app]
                  rfl
              · rintro l11 H11 k11 e11 rfl
                refine ⟨C, _, rfl, e11, fun qp H12 hqp k12 e12 => ?_⟩
                have e12 : TN H12 qp (mv hs g t m) := by
                  have z : (((nvs g).length : Nat) : Int).toNat = g.length := by rw [nvs_length]; omega
                  rw [z, List.take_length, ← hml, List.take_length] at e12
                  exact e12
                have k1012 : Kp [] H10 H12 := k11.trans k12
                have row12 := row10.kp k1012 (by simp)
                obtain ⟨vs12, ev12, _⟩ := id row12
                refine ⟨_, rfl, .inl ⟨rfl, _, SqL.of ev12⟩, ?_⟩
                have hb12 := k1012.tup _ _ (k610.tup _ _ h2)
                have hV := LV.cnt hR
                refine ⟨_, rfl, _, rfl, _, rfl, by show 1 ≤ _; omega, fun p1 H13 hp1 k13' e13 => ⟨b, p1, _, _, rfl, rfl, k13'.tup _ _ hb12, e13, by rw [nvs_length, r3]; show n + 1 ≤ _; omega, fun p2 H14 k14 e14 => ⟨_, rfl, by show 3 ≤ _; omega, fun p3 H15 hp3 k15 e15 => ?_⟩⟩⟩
                have k1215 : Kp [] H12 H15 := k13'.trans (k14.trans k15)
                have e14' : TN H15 p2 (w0 ++ [t]) := by
                  have z := k15.tup _ _ e14
                  rw [show nvs w0 ++ [nv t] = nvs (w0 ++ [t]) from (nvs_app w0 [t]).symm] at z
                  exact z
                have hX := N.xlen
                have hsz : (X ++ ext hs g p w0 m (lot.take i)).length < sizeLine := by
                  rw [List.length_append]
                  unfold ext
                  rw [List.length_map, List.length_take]
                  have : lot.length * Sn'.length ≤ 5 * 3125 := Nat.mul_le_mul l5 hSn'
                  omega
                obtain ⟨ys, ey, hz2, put2⟩ := (row12.kp k1215 (by simp)).app (v := .ref p3) (e := (p, (w0 ++ [t], mv hs g t m))) ⟨p3, p2, qp, rfl, e15, e14', k1215.tup _ _ e12⟩ hsz
                refine ⟨ll, ys, _, rfl, rfl, ey, hz2, fun H16 k16 e16 => ?_⟩
                obtain ⟨_, row16⟩ := put2 H16 k16 e16
                refine ⟨_, _, rfl, k10.trans ((k1012.trans k1215).up.trans k16), ?_⟩
                rw [ext_snoc ht, ← List.append_assoc]
                exact row16
            · rintro σ H10 ⟨b12, b13, rfl, k10, row10⟩
              rw [nvs_length, List.take_length] at row10
              exact ⟨Sn' ++ [m], F'', _, _, _, _, _, _, _, _, rfl, k69.trans (k10.mono (by simp)), dd9.kp RT.stb k10 (by simp [nld]), lt9.kp k10 (by simp [nls]), row10, N.add LV hRk hm Q9⟩
      · rintro σ H7 ⟨Sn', F', X, b7, b8, b9, b10, b11, b12, b13, rfl, k7, dd7, lt7, row7, N⟩
        rw [Paired.length pvs6] at N
        exact ⟨_, rfl, X, Sn', F', ll, _, _, _, _, _, _, _, _, rfl, kk5.trans (((k6.up (xs := [ll, sl, d])).trans k7).drop hll), dd7, lt7, row7, N.done LV hR, nls.symm, nld.symm⟩
end
end Rs


set_option Elab.async false
set_option linter.all false
set_option maxRecDepth 100000
set_option maxHeartbeats 4000000
namespace Rs
open PySem PySem.Spec PyProof.Rows L2
abbrev sLLeast : Stmt := topS 37
def RN (_ : Hp) (v : V) (x : Nat) : Prop := v = nv x
theorem RN.stb : Stb RN := fun H H' v x k h => h
def spLLeast (n : Nat) : Sp := fun vs H Q _ => ∃ ha la ga kd hs pl lot g D, vs = [.ref ha, .ref la, .ref ga, .ref kd] ∧ Good hs pl lot ∧ Grp hs g ∧ g.length < n ∧ HabsAt H ha hs ∧ TN H la lot ∧ TN H ga g ∧ DA RN H kd D ∧ KnL hs lot D ∧
  ∀ D' H', Kp [kd] H H' → DA RN H' kd D' → KnL hs lot D' → Q (nv (lw hs lot g)) H'
abbrev nLLeast : List Str := ["_law_habits", "_law_lot", "_law_group", "_law_known", "_law_best", "_law_tests_here", "_law_part", "_law_rest", "_law_price_here", "_law_k"]
theorem scLLeast : FnScope nLLeast ["_law_habits", "_law_lot", "_law_group", "_law_known"] (defScope sLLeast) := ⟨rfl, rfl, rfl, by decide +kernel, rfl, by decide +kernel, by decide +kernel⟩
section
variable {P : Program} {w : World} {K : PySem.W.Frag} {mg : Str → Option Value} {base : Heap} {f : Addr} {fd : FuncData}
theorem lleast_none : FnOk P w K mg base CX0 1 f fd ["_law_habits", "_law_lot", "_law_group", "_law_known"] (spLLeast 0) := by
  have no : ∀ vs H Q E, ¬ spLLeast 0 vs H Q E := fun vs H Q E h => by
    obtain ⟨ha, la, ga, kd, hs, pl, lot, g, D, _, _, _, h, _⟩ := h
    omega
  exact ⟨fun vs H Q E h => absurd h (no vs H Q E), fun A outer s H args us vs Q E _ _ _ _ h => absurd h (no vs H Q E)⟩
theorem ok_lleast {n : Nat} (F : Fun K "_law_least" "_law_least" sLLeast f fd) (B : Bi mg) (mgF : mg "_law_least" = some (.ref f)) (bF : Binds K fd ["_law_habits", "_law_lot", "_law_group", "_law_known"] [])
    (cT : Cl P w K mg base CX0 1 "_law_tests" ["_law_habits", "_law_lot", "_law_group"] spLTests)
    (ih : FnOk P w K mg base CX0 (n + 1) f fd ["_law_habits", "_law_lot", "_law_group", "_law_known"] (spLLeast n)) : FnOk P w K mg base CX0 (n + 2) f fd ["_law_habits", "_law_lot", "_law_group", "_law_known"] (spLLeast (n + 1)) := by
  obtain ⟨fT, fdT, gT, mgT, kpT, bT⟩ := cT
  refine F.ok scLLeast (fun vs H Q E h => ?_) (fun cdv A outer s H vs Q E hr h => ?_)
  · obtain ⟨ha, la, ga, kd, hs, pl, lot, g, D, rfl, _⟩ := h
    rfl
  obtain ⟨ha, la, ga, kd, hs, pl, lot, g, D, rfl, G, hg, hlen, hh, hl, hgr, dd, Kn, q⟩ := h
  have hu := hu_of hr
  have nd := scLLeast.nd
  have hr1 : Room 1 (A.deeper (envOfC "_law_least" (defScope sLLeast) s.heap.objs.size f cdv)) := hr.mono (by omega)
  refine ⟨_, pss_cons (ps_if (pt_cmp (pc_dnotin hu (pv 2) (pv 3)))
      (pss_cons (ps_par (i := 4) (j := 5) rfl nd rfl rfl (by decide) rfl rfl (pa_cons pe_non (pa_cons (pe_call gT hr1 rfl mgT kpT bT .nil pass0 (pa_cons (pv 0) (pa_cons (pv 1) (pa_cons (pv 2) pa_nil)))) pa_nil)) rfl)
      (pss_cons (ps_for PassesOwn.never rfl (pi_keysMT (pv 5)) (pg_name (i := 6) nd rfl (.inr rfl))
        (pss_one (ps_if (pt_chain op_lt op_lt pe_int (pe_callB call_len_seq rfl B.len boot_len (pa_cons (pv 6) pa_nil)) (pe_callB call_len_seq rfl B.len boot_len (pa_cons (pv 2) pa_nil)))
          (pss_cons (ps_set (i := 7) nd rfl (.inl rfl) (pe_callTy call_tupL rfl B.tuple boot_tuple (pa_cons (pe_lc (own := [("_law_k", 9)]) (g := gName 9) (tt := tTest (tOp (rIn K true) (tVar 9) (tVar 6))) rfl nd (pi_tup (pv 2)) (blkOk_by (own := [("_law_k", 9)]) (N := nLLeast) (sc := defScope sLLeast) (by decide +kernel))
              (fun _ _ _ _ _ => pg_name (i := 9) nd rfl (.inl rfl)) (fun _ _ _ _ _ => pts_one (pt_cmpR (r := rIn K true) op_notIn_seq (pv 9) (pv 6) rfl)) (fun _ _ _ _ _ => pv 9)) pa_nil)))
          (pss_cons (ps_set (i := 8) nd rfl (.inl rfl) (pe_op op_add (pe_op op_add (pe_callB call_len_seq rfl B.len boot_len (pa_cons (pe_ix ix_tup (pe_dget hu (pv 5) (pv 6) (fun _ _ => rfl)) pe_int (fun _ _ => rfl)) pa_nil)) pe_int)
              (pe_callB (call_max2 rfl) rfl B.max PyProof.Rows.boot_max (pa_cons (pe_call ih hr rfl mgF F.kp bF .nil pass0 (pa_cons (pv 0) (pa_cons (pv 1) (pa_cons (pv 6) (pa_cons (pv 3) pa_nil))))) (pa_cons (pe_call ih hr rfl mgF F.kp bF .nil pass0 (pa_cons (pv 0) (pa_cons (pv 1) (pa_cons (pv 7) (pa_cons (pv 3) pa_nil))))) pa_nil)))))
          (pss_one (ps_set (i := 4) nd rfl (.inl rfl) (pe_ifExp (PW.pt (pw_or (pt_cmp (pc_isN (pv 4))) (pw_or1 (pt_cmpR op_lt (pv 8) (pv 4) (nomark _))))) (pv 8) (pv 4))))))
          pss_nil)))
      (pss_one (ps_dput hu (pv 3) (pv 2) (pe_ifExp (pt_cmp (pc_isN (pv 4))) pe_int (pv 4)) rfl)))) pss_nil)
    (pss_one (ps_ret (pe_dget hu (pv 3) (pv 2) (fun _ _ => rfl)))), ?_⟩
  have big := sizeLine_big
  have g5 : g.length ≤ 5 := Nat.le_trans hg.len G.h5
  have fin : ∀ (σ : L2.St) (H' : Hp) (D' : List (List Nat × Nat)) (x : Nat), σ[2]? = some (some (.ref ga)) → σ[3]? = some (some (.ref kd)) → Kp [kd] H H' → DA RN H' kd D' → KnL hs lot D' → lk D' g = some x → tDGet (tVar 3) (tVar 2) σ H' Q := by
    intro σ H' D' x s2 s3 k dd' Kn' hx
    obtain ⟨o, hget, hc⟩ := dd'.dr.get (k.tup _ _ hgr)
    rcases hc with ⟨_, hno⟩ | ⟨v, x', rfl, hx', ev⟩
    · rw [hx] at hno
      cases hno
    rw [hx] at hx'
    cases hx'
    obtain ⟨_, l1⟩ := Kn'.en _ (lk_some hx)
    have l1 : x = lw hs lot g := l1
    have ev : v = nv x := ev
    refine ⟨_, s3, _, s2, kd, _, rfl, hget, ?_⟩
    rw [ev, l1]
    exact q D' H' k dd' Kn'
  obtain ⟨o, hget, hc⟩ := dd.dr.get hgr
  refine ⟨_, rfl, _, rfl, kd, o, rfl, hget, _, rfl, ?_⟩
  rcases hc with ⟨rfl, hn⟩ | ⟨v, x, rfl, hx, _⟩
  rotate_left
  · exact fin _ H D x rfl rfl (Kp.refl _) dd Kn hx
  refine ⟨_, rfl, _, rfl, _, rfl, ha, la, ga, hs, pl, lot, g, rfl, G, hg, hh, hl, hgr, fun td F H1 htd k1 ⟨kvs, etd, dp⟩ LSF => ⟨_, _, rfl, ?_⟩⟩
  refine ⟨_, rfl, td, kvs, rfl, etd, fun od => ?_⟩
  have k2 : Kp [td] H1 (upd H1 td (.frz od (.dT kvs))) := Kp.lock etd (by simp)
  have etd2 : upd H1 td (.frz od (.dT kvs)) td = some (.frz od (.dT kvs)) := upd_same
  generalize upd H1 td (.frz od (.dT kvs)) = H2 at k2 etd2
  have nkt : kd ≠ td := by
    obtain ⟨_, z, _⟩ := dd
    exact ne_of_none z htd
  have k02 : Kp [] H H2 := (k1.up.trans k2 : Kp [td] H H2).drop htd
  have hh2 := hh.st k02.tup
  have hl2 := k02.tup _ _ hl
  have hgr2 := k02.tup _ _ hgr
  refine for_it walk_keysT (fun j σ H' => ∃ b D' x6 x7 x8, σ = [some (.ref ha), some (.ref la), some (.ref ga), some (.ref kd), some (ov b), some (.ref td), x6, x7, x8, none] ∧ Kp [kd] H2 H' ∧ DA RN H' kd D' ∧ KnL hs lot D' ∧ Ll hs lot g F j b)
    ⟨none, D, none, none, none, rfl, Kp.refl _, dd.kp RN.stb k02 (by simp), Kn, Ll.start⟩ (fun j σ H' _ ⟨_, _, _, _, _, _, k, _⟩ => k.frz etd2 (by simp [nkt.symm])) ?_ ?_
  · rintro j x σ H3 H4 hj ⟨b, D', x6, x7, x8, rfl, k3, dd3, Kn3, L⟩ ⟨rfl, k, v, qp, hk, rfl, hqp⟩
    obtain ⟨S, sT, hD, rfl, _⟩ := dp.at hk
    rw [ks_kV] at hqp
    obtain ⟨ok, eS⟩ := LSF.en _ (List.mem_of_getElem? hD)
    have ok : sT.ok lot := ok
    have eS : S = yes hs g sT := eS
    have hgr3 := k3.tup _ _ hgr2
    have hqp : TN H4 qp (yes hs g sT) := by
      rw [← eS]
      exact hqp
    refine ⟨_, rfl, qp, _, rfl, .inr (SqT.of hqp), _, _, rfl, rfl, _, rfl, ite2 (fun z1 => ?_) (fun z1 => ?_)⟩
    rotate_left
    · have z1 : ¬ _ := fun q => z1 (decide_eq_true q)
      rw [nvs_length] at z1
      exact ⟨false, rfl, b, D', _, _, _, rfl, k3, dd3, Kn3, L.skip hD fun (p : Prp hs lot g sT) => absurd (len_pos p.2.1) (by omega)⟩
    have z1 := of_decide_eq_true z1
    rw [nvs_length] at z1
    refine ⟨_, rfl, ga, _, rfl, .inr (SqT.of hgr3), _, _, rfl, rfl, _, rfl, ite2 (fun z2 => ?_) (fun z2 => ?_)⟩
    rotate_left
    · have z2 : ¬ _ := fun q => z2 (decide_eq_true q)
      rw [nvs_length, nvs_length] at z2
      exact ⟨b, D', _, _, _, rfl, k3, dd3, Kn3, L.skip hD fun (p : Prp hs lot g sT) => absurd p.yes_lt (by omega)⟩
    have z2 := of_decide_eq_true z2
    rw [nvs_length, nvs_length] at z2
    have pr : Prp hs lot g sT := prp_of ok (by omega) (by omega)
    have ly := pr.yes_lt
    have ln := pr.no_lt
    refine ⟨_, rfl, ga, rfl, ⟨_, SqT.of hgr3⟩, fun Cc hC => lcN walk_tup [] (fun j l _ => l = nvs (rst (g.take j) (yes hs g sT))) hC (fun _ _ => rfl) (fun j l H _ k _ => SqT.of (k.tup _ _ hgr3)) ?_ ?_⟩
    · rintro i x l8 H8 H9 hi k8 e8 rfl ⟨rfl, hx⟩
      obtain ⟨n9, hn9, rfl⟩ := nvs_at hx
      have rs := rst_snoc (S := yes hs g sT) hn9
      refine ⟨rfl, _, rfl, _, rfl, qp, nvs (yes hs g sT), rfl, .inr (SqT.of (k8.tup _ _ hqp)), rfl, flat_nvs _, _, rfl, ?_⟩
      show if (!inV (nv n9) (nvs (yes hs g sT))) = true then _ else _
      rw [inV_nvs]
      by_cases z : n9 ∈ yes hs g sT
      · rw [decide_eq_true z]
        refine ⟨_, k8, e8, ?_⟩
        show nvs _ = nvs (rst (g.take (i + 1)) (yes hs g sT))
        rw [rs, if_pos z, List.append_nil]
      · rw [decide_eq_false z]
        refine ⟨_, rfl, PvL.add k8 e8 ?_ fun H5 k5 => ?_⟩
        · rw [nvs_length]
          have := rst_len (g.take i) (yes hs g sT)
          rw [List.length_take] at this
          omega
        · rw [rs, if_neg z, nvs_app]
          rfl
    · rintro l8 H8 k8 e8 rfl
      refine ⟨Cc, _, rfl, e8, fun qr H9 hqr k9 e9 => ?_⟩
      rw [nvs_length, List.take_length, rst_yes] at e9
      have e9 : TN H9 qr (no hs g sT) := e9
      have k89 : Kp [] H4 H9 := k8.trans k9
      have k29 : Kp [kd] H2 H9 := k3.trans k89.up
      have hqp9 := k89.tup _ _ hqp
      have dr9 : DR RT H9 td F := ⟨kvs, .inr ⟨od, k29.frz etd2 (by simp [nkt.symm])⟩, dp.st RT.stb (k2.tup.trans k29.tup)⟩
      obtain ⟨o9, hget9, hc9⟩ := dr9.get hqp9
      have hlk : lk F (yes hs g sT) = some sT := by
        rw [← eS]
        exact lk_mem LSF.nd (List.mem_of_getElem? hD)
      rcases hc9 with ⟨_, hno⟩ | ⟨v9, x9, rfl, hx9, ta, rfl, wa, hta, hwa⟩
      · rw [hlk] at hno
        cases hno
      rw [hlk] at hx9
      cases hx9
      refine ⟨_, rfl, _, rfl, td, _, rfl, hget9, ta, _, 1, _, rfl, rfl, SqT.of hta, rfl, wa, _, rfl, .inr (SqT.of hwa), _, _, rfl, rfl, ?_⟩
      refine ⟨_, rfl, _, rfl, _, rfl, _, rfl, ha, la, qp, kd, hs, pl, lot, yes hs g sT, D', rfl, G, hg.sub (yes_sub _ _ _), by omega, hh2.st k29.tup, k29.tup _ _ hl2, hqp9, dd3.kp RN.stb k89 (by simp), Kn3, fun D1 H10 k10 dd10 Kn10 => ?_⟩
      have k210 := k29.trans k10
      refine ⟨_, rfl, _, rfl, _, rfl, _, rfl, ha, la, qr, kd, hs, pl, lot, no hs g sT, D1, rfl, G, hg.sub (no_sub _ _ _), by omega, hh2.st k210.tup, k210.tup _ _ hl2, k10.tup _ _ e9, dd10, Kn10, fun D2 H11 k11 dd11 Kn11 => ?_⟩
      have k211 := k210.trans k11
      refine ⟨_, _, rfl, _, _, rfl, rfl, ?_⟩
      have ecst : V.int ((((nvs sT.w).length : Nat) : Int) + 2 + (if ((lw hs lot (no hs g sT) : Nat) : Int) > ((lw hs lot (yes hs g sT) : Nat) : Int) then ((lw hs lot (no hs g sT) : Nat) : Int) else ((lw hs lot (yes hs g sT) : Nat) : Int))) = nv (cst hs lot g sT) := by
        have z := max_nv (lw hs lot (yes hs g sT)) (lw hs lot (no hs g sT))
        injection z with z
        unfold nv cst
        rw [z, nvs_length]
        congr 1
      refine Eq.subst (motive := fun z => gName 8 z _ _ _) ecst.symm ?_
      refine ⟨_, rfl, _, rfl, ?_⟩
      cases b with
      | none => exact ⟨_, rfl, some (cst hs lot g sT), D2, _, _, _, rfl, k211, dd11, Kn11, L.take hD pr fun _ z => nomatch z⟩
      | some y =>
        refine ⟨_, rfl, _, rfl, _, _, rfl, rfl, _, rfl, ite2 (fun z => ?_) (fun z => ?_)⟩
        · have z := of_decide_eq_true z
          exact ⟨_, rfl, some (cst hs lot g sT), D2, _, _, _, rfl, k211, dd11, Kn11, L.take hD pr fun v ev => by
            cases ev
            show cst hs lot g sT < y
            have z : ((cst hs lot g sT : Nat) : Int) < ((y : Nat) : Int) := z
            omega⟩
        · have z : ¬ ((cst hs lot g sT : Nat) : Int) < ((y : Nat) : Int) := fun q => z (decide_eq_true q)
          exact ⟨_, rfl, some y, D2, _, _, _, rfl, k211, dd11, Kn11, L.keep hD (by show y ≤ cst hs lot g sT; omega)⟩
  · rintro σ H3 ⟨b, D', x6, x7, x8, rfl, k3, dd3, Kn3, L⟩
    rw [dp.length] at L
    have hlw := L.fin LSF
    have k03 := k02.up.trans k3
    have hsz : D'.length < sizeLine := by
      have := kn_few G.h5 Kn3.nd fun e he => (Kn3.en e he).1
      omega
    obtain ⟨H4, hput, k4, dd4⟩ := dd3.put RN.stb (k03.tup _ _ hgr) (show RN H3 (nv (lw hs lot g)) (lw hs lot g) from rfl) hsz
    have Kn4 := Kn3.put hg
    have last := fin [some (.ref ha), some (.ref la), some (.ref ga), some (.ref kd), some (ov b), some (.ref td), x6, x7, x8, none] H4 _ _ rfl rfl (k03.trans k4) dd4 Kn4 (lk_mem Kn4.nd pt_mem)
    cases b with
    | none =>
      have e0 : lw hs lot g = 0 := hlw
      rw [e0] at hput
      exact ⟨_, rfl, _, rfl, _, rfl, _, rfl, kd, H4, rfl, hput, last⟩
    | some y =>
      have e0 : lw hs lot g = y := hlw
      rw [e0] at hput
      exact ⟨_, rfl, _, rfl, _, rfl, _, rfl, _, rfl, kd, H4, rfl, hput, last⟩
theorem lleast_all (F : Fun K "_law_least" "_law_least" sLLeast f fd) (B : Bi mg) (mgF : mg "_law_least" = some (.ref f)) (bF : Binds K fd ["_law_habits", "_law_lot", "_law_group", "_law_known"] [])
    (cT : Cl P w K mg base CX0 1 "_law_tests" ["_law_habits", "_law_lot", "_law_group"] spLTests) : ∀ n, FnOk P w K mg base CX0 (n + 1) f fd ["_law_habits", "_law_lot", "_law_group", "_law_known"] (spLLeast n)
  | 0 => lleast_none
  | n + 1 => ok_lleast F B mgF bF cT (lleast_all F B mgF bF cT n)
end
end Rs


set_option Elab.async false
set_option linter.all false
set_option maxRecDepth 100000
set_option maxHeartbeats 4000000
namespace Rs
open PySem PySem.Spec PyProof.Rows L2
abbrev sLPrice : Stmt := topS 38
def spLPrice (n : Nat) : Sp := fun vs H Q _ => ∃ ha la ga ta hs pl lot g t v, vs = [.ref ha, .ref la, .ref ga, .ref ta] ∧ Good hs pl lot ∧ Grp hs g ∧ g.length < n ∧ HabsAt H ha hs ∧ TN H la lot ∧ TN H ga g ∧ TreeAt H ta t ∧ t.dp ≤ 30 ∧ wv hs lot g t = some v ∧
  ∀ H', Kp [] H H' → Q (nv v) H'
abbrev nLPrice : List Str := ["_law_habits", "_law_lot", "_law_group", "_law_tree", "_law_good", "_law_part", "_law_rest", "_law_one", "_law_two", "_law_k"]
theorem scLPrice : FnScope nLPrice ["_law_habits", "_law_lot", "_law_group", "_law_tree"] (defScope sLPrice) := ⟨rfl, rfl, rfl, by decide +kernel, rfl, by decide +kernel, by decide +kernel⟩
section
variable {P : Program} {w : World} {K : PySem.W.Frag} {mg : Str → Option Value} {base : Heap} {f : Addr} {fd : FuncData}
theorem lprice_none : FnOk P w K mg base CX0 1 f fd ["_law_habits", "_law_lot", "_law_group", "_law_tree"] (spLPrice 0) := by
  have no : ∀ vs H Q E, ¬ spLPrice 0 vs H Q E := fun vs H Q E h => by
    obtain ⟨ha, la, ga, kd, hs, pl, lot, g, t, v, _, _, _, h, _⟩ := h
    omega
  exact ⟨fun vs H Q E h => absurd h (no vs H Q E), fun A outer s H args us vs Q E _ _ _ _ h => absurd h (no vs H Q E)⟩
theorem ok_lprice {n : Nat} (F : Fun K "_law_price" "_law_price" sLPrice f fd) (B : Bi mg) (mgF : mg "_law_price" = some (.ref f)) (bF : Binds K fd ["_law_habits", "_law_lot", "_law_group", "_law_tree"] [])
    (cT : Cl P w K mg base CX0 1 "_law_tests" ["_law_habits", "_law_lot", "_law_group"] spLTests) (cR : Cl P w K mg base CX0 1 "_law_reads" ["_law_habit_here", "_law_test"] spReads)
    (ih : FnOk P w K mg base CX0 (n + 1) f fd ["_law_habits", "_law_lot", "_law_group", "_law_tree"] (spLPrice n)) : FnOk P w K mg base CX0 (n + 2) f fd ["_law_habits", "_law_lot", "_law_group", "_law_tree"] (spLPrice (n + 1)) := by
  obtain ⟨fT, fdT, gT, mgT, kpT, bT⟩ := cT
  obtain ⟨fR, fdR, gR, mgR, kpR, bR⟩ := cR
  refine F.ok scLPrice (fun vs H Q E h => ?_) (fun cdv A outer s H vs Q E hr h => ?_)
  · obtain ⟨ha, la, ga, kd, hs, pl, lot, g, t, v, rfl, _⟩ := h
    rfl
  obtain ⟨ha, la, ga, a, hs, pl, lot, g, t, v, rfl, G, hg, hlen, hh, hl, hgr, ht, hdp, hv, q⟩ := h
  have hu := hu_of hr
  have hu64 := hr.units
  have nd := scLPrice.nd
  have hr1 : Room 1 (A.deeper (envOfC "_law_price" (defScope sLPrice) s.heap.objs.size f cdv)) := hr.mono (by omega)
  refine ⟨_, pss_cons (ps_if (pt_cmpR op_eq (pe_ix ix_tup (pv 3) pe_int (fun _ _ => rfl)) pe_str (nomark _))
      (pss_cons (ps_set (i := 4) nd rfl (.inl rfl) (pe_cmpR (op_eqD hu64) (pe_lc (own := [("_law_part", 5)]) (g := gName 5) (tt := tTest (tChain (rI0 fun i j => .bl (decide (i < j))) (rI0 fun i j => .bl (decide (i < j))) (tC (.int 0)) (tCB (rLen K) (tCons (tVar 5) tNil)) (tCB (rLen K) (tCons (tVar 2) tNil)))) rfl nd
            (pi_keysMT (pe_call gT hr1 rfl mgT kpT bT .nil pass0 (pa_cons (pv 0) (pa_cons (pv 1) (pa_cons (pv 2) pa_nil))))) (blkOk_by (own := [("_law_part", 5)]) (N := nLPrice) (sc := defScope sLPrice) (by decide +kernel))
            (fun _ _ _ _ _ => pg_name (i := 5) nd rfl (.inl rfl)) (fun _ _ _ _ _ => pts_one (pt_chain op_lt op_lt pe_int (pe_callB (r := rLen K) call_len_seq rfl B.len boot_len (pa_cons (pv 5) pa_nil)) (pe_callB (r := rLen K) call_len_seq rfl B.len boot_len (pa_cons (pv 2) pa_nil)))) (fun _ _ _ _ _ => pv 5)) (pe_lstN pa_nil) (nomark _)))
      (pss_one (ps_ret (pe_ifExp (PW.pt (pw_and (pt_cmpR (op_eqD hu64) (pv 3) (pe_tupN (pa_cons pe_str (pa_cons (pv 2) pa_nil))) (nomark _)) (pw_and1 (pt_val (pv 4))))) pe_int pe_non)))) pss_nil)
    (pss_cons (ps_set (i := 5) nd rfl (.inr rfl) (pe_callTy call_tupL rfl B.tuple boot_tuple (pa_cons (pe_lc (own := [("_law_k", 9)]) (g := gName 9) (tt := tB (tCall spReads [] E0 (tCons (tOp (rIxT K) (tVar 0) (tVar 9)) (tCons (tOp (rIxT K) (tVar 3) (tC (.int 1))) tNil)))) rfl nd (pi_tup (pv 2)) (blkOk_by (own := [("_law_k", 9)]) (N := nLPrice) (sc := defScope sLPrice) (by decide +kernel))
        (fun _ _ _ _ _ => pg_name (i := 9) nd rfl (.inl rfl)) (fun _ _ _ _ _ => pts_one (pt_val (pe_call gR hr1 rfl mgR kpR bR .nil pass0 (pa_cons (pe_ix (r := rIxT K) ix_tup (pv 0) (pv 9) (fun _ _ => rfl)) (pa_cons (pe_ix (r := rIxT K) ix_tup (pv 3) pe_int (fun _ _ => rfl)) pa_nil))))) (fun _ _ _ _ _ => pv 9)) pa_nil)))
    (pss_cons (ps_set (i := 6) nd rfl (.inl rfl) (pe_callTy call_tupL rfl B.tuple boot_tuple (pa_cons (pe_lc (own := [("_law_k", 9)]) (g := gName 9) (tt := tTest (tOp (rIn K true) (tVar 9) (tVar 5))) rfl nd (pi_tup (pv 2)) (blkOk_by (own := [("_law_k", 9)]) (N := nLPrice) (sc := defScope sLPrice) (by decide +kernel))
        (fun _ _ _ _ _ => pg_name (i := 9) nd rfl (.inl rfl)) (fun _ _ _ _ _ => pts_one (pt_cmpR (r := rIn K true) op_notIn_seq (pv 9) (pv 5) rfl)) (fun _ _ _ _ _ => pv 9)) pa_nil)))
    (pss_cons (ps_if (PW.pt (pw_or (pt_cmpR (op_eqD hu64) (pv 5) (pe_tupN pa_nil) (nomark _)) (pw_or1 (pt_cmpR (op_eqD hu64) (pv 6) (pe_tupN pa_nil) (nomark _))))) (pss_one (ps_ret pe_non)) pss_nil)
    (pss_cons (ps_par (i := 7) (j := 8) rfl nd rfl rfl (by decide) rfl rfl (pa_cons (pe_call ih hr rfl mgF F.kp bF .nil pass0 (pa_cons (pv 0) (pa_cons (pv 1) (pa_cons (pv 5) (pa_cons (pe_ix ix_tup (pv 3) pe_int (fun _ _ => rfl)) pa_nil)))))
        (pa_cons (pe_call ih hr rfl mgF F.kp bF .nil pass0 (pa_cons (pv 0) (pa_cons (pv 1) (pa_cons (pv 6) (pa_cons (pe_ix ix_tup (pv 3) pe_int (fun _ _ => rfl)) pa_nil))))) pa_nil)) rfl)
    (pss_one (ps_ret (pe_ifExp (PW.pt (pw_or (pt_cmp (pc_isN (pv 7))) (pw_or1 (pt_cmp (pc_isN (pv 8)))))) pe_non
      (pe_op op_add (pe_op op_add (pe_callB call_len_seq rfl B.len boot_len (pa_cons (pe_ix ix_tup (pe_ix ix_tup (pv 3) pe_int (fun _ _ => rfl)) pe_int (fun _ _ => rfl)) pa_nil)) pe_int) (pe_callB (call_max2 rfl) rfl B.max PyProof.Rows.boot_max (pa_cons (pv 7) (pa_cons (pv 8) pa_nil))))))))))), ?_⟩
  have big := sizeLine_big
  have g5 : g.length ≤ 5 := Nat.le_trans hg.len G.h5
  cases t with
  | left g' =>
    obtain ⟨rfl, hno, rfl⟩ := wv_left_some hv
    obtain ⟨b, e, hb⟩ := id ht
    refine ⟨_, rfl, a, _, 0, _, rfl, rfl, SqT.of e, rfl, rfl, _, rfl, ite2 (fun _ => ?_) (fun z => absurd (decide_eq_true rfl) z)⟩
    refine ⟨_, rfl, _, rfl, _, rfl, ha, la, ga, hs, pl, lot, g', rfl, G, hg, hh, hl, hgr, fun td F H1 htd k1 ⟨kvs, etd, dp⟩ LSF => ⟨td, kvs, rfl, etd, fun od => ?_⟩⟩
    have k2 : Kp [td] H1 (upd H1 td (.frz od (.dT kvs))) := Kp.lock etd (by simp)
    have etd2 : upd H1 td (.frz od (.dT kvs)) td = some (.frz od (.dT kvs)) := upd_same
    generalize upd H1 td (.frz od (.dT kvs)) = H2 at k2 etd2
    have k02 : Kp [] H H2 := (k1.up.trans k2 : Kp [td] H H2).drop htd
    have hgr2 := k02.tup _ _ hgr
    refine fun Cc hC => lcN walk_keysT [] (fun j l _ => l = []) hC (fun _ _ => rfl) (fun j l H _ k _ => k.frz etd2 (by simp [ne_of_none etd2 hC])) ?_ ?_
    · rintro j x l8 H8 H9 hj k8 e8 rfl ⟨rfl, k, v, qp, hk, rfl, hqp⟩
      obtain ⟨S, sT, hD, rfl, _⟩ := dp.at hk
      rw [ks_kV] at hqp
      obtain ⟨ok, eS⟩ := LSF.en _ (List.mem_of_getElem? hD)
      have ok : sT.ok lot := ok
      have eS : S = yes hs g' sT := eS
      refine ⟨rfl, _, rfl, qp, _, rfl, .inr (SqT.of hqp), _, _, rfl, rfl, _, rfl, ite2 (fun z1 => ?_) (fun z1 => ?_)⟩
      · have z1 := of_decide_eq_true z1
        rw [nvs_length] at z1
        refine ⟨_, rfl, ga, _, rfl, .inr (SqT.of (k8.tup _ _ hgr2)), _, _, rfl, rfl, _, rfl, ite2 (fun z2 => ?_) (fun z2 => ?_)⟩
        · have z2 := of_decide_eq_true z2
          rw [nvs_length, nvs_length] at z2
          exact absurd ⟨sT, prp_of ok (by rw [← eS]; omega) (by rw [← eS]; omega)⟩ hno
        · exact ⟨_, k8, e8, rfl⟩
      · exact ⟨false, rfl, _, k8, e8, rfl⟩
    · rintro l8 H8 k8 e8 rfl
      refine ⟨Nat.zero_le _, fun p9 H9 hp9 k9 e9 => ⟨.list [], .list [], dp_lnil (k9.lst e8 (by simp)), dp_lnil e9, lnil_shaped, lnil_shaped, ?_⟩⟩
      rw [show PyData.eqv (.list []) (.list []) = true by simp [PyData.eqv, PyData.eqvAll]]
      have k09 : Kp [] H H9 := k02.trans (k8.trans k9)
      refine ⟨_, rfl, _, rfl, by show 2 ≤ _; omega, fun p2 H10 hp2 k10 e10 => ⟨.tuple [.str "left", nD g'], .tuple [.str "left", nD g'], dp_tree (t := .left g') ((ht.st k09.tup).st k10.tup), .tup (SqT.of e10) (.cons (.str _) (.cons (dp_n (k10.tup _ _ (k09.tup _ _ hgr))) .nil)), left_shaped g', left_shaped g', _, rfl, ?_⟩⟩
      rw [left_eqv, decide_eq_true rfl]
      exact ⟨_, rfl, _, rfl, q H10 (k09.trans k10)⟩
  | test ts x y =>
    obtain ⟨pr, v1, v2, h1, h2, rfl⟩ := wv_test_some hv
    obtain ⟨b, c, d, e, hts, htx, hty⟩ := id ht
    obtain ⟨wb, ets, hwb⟩ := id hts
    have ok := pr.1
    have ly := pr.yes_lt
    have ln := pr.no_lt
    have hxy : x.dp ≤ 30 ∧ y.dp ≤ 30 := by
      have h2 : 1 + max 2 (max x.dp y.dp) ≤ 30 := hdp
      omega
    refine ⟨_, rfl, a, _, 0, _, rfl, rfl, SqT.of e, rfl, rfl, _, rfl, ite2 (fun z => absurd (of_decide_eq_true z) test_ne) (fun _ => ?_)⟩
    refine ⟨_, rfl, ga, rfl, ⟨_, SqT.of hgr⟩, fun Cc hC => lcN walk_tup [] (fun j l _ => l = nvs ((g.take j).filter (rd hs ts))) hC (fun _ _ => rfl) (fun j l H _ k _ => SqT.of (k.tup _ _ hgr)) ?_ ?_⟩
    · rintro j v l8 H8 H9 hj k8 e8 rfl ⟨rfl, hx⟩
      obtain ⟨n9, hn9, rfl⟩ := nvs_at hx
      have rs := filt_snoc (p := rd hs ts) hn9
      obtain ⟨zs, z1, _, zf⟩ := (hh.st k8.tup).at
      have hi : n9 < hs.length := hg.lt (List.mem_of_getElem? hn9)
      obtain ⟨bh, z2, z3⟩ := zf n9 _ (List.getElem?_eq_getElem hi)
      refine ⟨rfl, _, rfl, _, rfl, ha, zs, _, _, rfl, rfl, SqT.of z1, atI_nat z2, _, rfl, a, _, 1, _, rfl, rfl, SqT.of (k8.tup _ _ e), rfl, bh, b, hs, pl, lot, n9, hs[n9], ts, rfl, G, List.getElem?_eq_getElem hi, z3, hts.st k8.tup, ok, _, rfl, ite2 (fun z => ?_) (fun z => ?_)⟩
      · refine ⟨_, rfl, PvL.add k8 e8 ?_ fun H5 k5 => ?_⟩
        · rw [nvs_length]
          have z1 := List.length_filter_le (rd hs ts) (g.take j)
          rw [List.length_take] at z1
          omega
        · rw [rs, if_pos z, nvs_app]
          rfl
      · refine ⟨_, k8, e8, ?_⟩
        show _ = nvs ((g.take (j + 1)).filter (rd hs ts))
        rw [rs, if_neg z, List.append_nil]
    · rintro l8 H8 k8 e8 rfl
      rw [nvs_length, List.take_length] at e8
      refine ⟨Cc, _, rfl, e8, fun qm H9 hqm k9 e9 => ?_⟩
      have e9 : TN H9 qm (yes hs g ts) := e9
      have k09 : Kp [] H H9 := k8.trans k9
      have hgr9 := k09.tup _ _ hgr
      refine ⟨_, rfl, ga, rfl, ⟨_, SqT.of hgr9⟩, fun Cd hCd => lcN walk_tup [] (fun j l _ => l = nvs (rst (g.take j) (yes hs g ts))) hCd (fun _ _ => rfl) (fun j l H _ k _ => SqT.of (k.tup _ _ hgr9)) ?_ ?_⟩
      · rintro j v l8 H10 H11 hj k10 e10 rfl ⟨rfl, hx⟩
        obtain ⟨n9, hn9, rfl⟩ := nvs_at hx
        have rs := rst_snoc (S := yes hs g ts) hn9
        refine ⟨rfl, _, rfl, _, rfl, qm, nvs (yes hs g ts), rfl, .inr (SqT.of (k10.tup _ _ e9)), rfl, flat_nvs _, _, rfl, ?_⟩
        show if (!inV (nv n9) (nvs (yes hs g ts))) = true then _ else _
        rw [inV_nvs]
        by_cases z : n9 ∈ yes hs g ts
        · rw [decide_eq_true z]
          refine ⟨_, k10, e10, ?_⟩
          show nvs _ = nvs (rst (g.take (j + 1)) (yes hs g ts))
          rw [rs, if_pos z, List.append_nil]
        · rw [decide_eq_false z]
          refine ⟨_, rfl, PvL.add k10 e10 ?_ fun H5 k5 => ?_⟩
          · rw [nvs_length]
            have := rst_len (g.take j) (yes hs g ts)
            rw [List.length_take] at this
            omega
          · rw [rs, if_neg z, nvs_app]
            rfl
      · rintro l10 H10 k10 e10 rfl
        refine ⟨Cd, _, rfl, e10, fun qn H11 hqn k11 e11 => ?_⟩
        rw [nvs_length, List.take_length, rst_yes] at e11
        have e11 : TN H11 qn (no hs g ts) := e11
        have k911 := k10.trans k11
        have e9' : TN H11 qm (yes hs g ts) := k911.tup _ _ e9
        refine ⟨_, rfl, Nat.zero_le _, fun p12 H12 hp12 k12 e12 => ⟨nD (yes hs g ts), nD [], dp_n (k12.tup _ _ e9'), dp_n e12, nD_shaped _, nD_shaped _, _, rfl, ?_⟩⟩
        rw [nD_eqv, decide_eq_false pr.2.1]
        have k012 : Kp [] H H12 := k09.trans (k911.trans k12)
        refine ⟨_, rfl, Nat.zero_le _, fun p13 H13 hp13 k13 e13 => ⟨nD (no hs g ts), nD [], dp_n (k13.tup _ _ (k12.tup _ _ e11)), dp_n e13, nD_shaped _, nD_shaped _, _, rfl, ?_⟩⟩
        rw [nD_eqv, decide_eq_false pr.2.2]
        have k013 := k012.trans k13
        refine ⟨_, rfl, _, rfl, _, rfl, _, rfl, a, _, 2, _, rfl, rfl, SqT.of (k013.tup _ _ e), rfl, ha, la, qm, c, hs, pl, lot, yes hs g ts, x, v1, rfl, G, hg.sub (yes_sub _ _ _), by omega, hh.st k013.tup, k013.tup _ _ hl, k13.tup _ _ (k12.tup _ _ e9'), htx.st k013.tup, hxy.1, h1, fun H14 k14 => ?_⟩
        have k014 := k013.trans k14
        refine ⟨_, rfl, _, rfl, _, rfl, _, rfl, a, _, 3, _, rfl, rfl, SqT.of (k014.tup _ _ e), rfl, ha, la, qn, d, hs, pl, lot, no hs g ts, y, v2, rfl, G, hg.sub (no_sub _ _ _), by omega, hh.st k014.tup, k014.tup _ _ hl, k14.tup _ _ (k13.tup _ _ (k12.tup _ _ e11)), hty.st k014.tup, hxy.2, h2, fun H15 k15 => ?_⟩
        have k015 := k014.trans k15
        have q' := q H15 k015
        refine ⟨_, _, rfl, _, rfl, _, rfl, ?_⟩
        refine ⟨_, rfl, _, rfl, ?_⟩
        refine ⟨_, rfl, a, _, 1, _, rfl, rfl, SqT.of (k015.tup _ _ e), rfl, b, _, 1, _, rfl, rfl, SqT.of (k015.tup _ _ ets), rfl, wb, _, rfl, .inr (SqT.of (k015.tup _ _ hwb)), _, _, rfl, rfl, _, rfl, _, rfl, _, _, rfl, _, _, rfl, rfl, ?_⟩
        have ee : V.int ((((nvs ts.w).length : Nat) : Int) + 2 + (if ((v2 : Nat) : Int) > ((v1 : Nat) : Int) then ((v2 : Nat) : Int) else ((v1 : Nat) : Int))) = nv (ts.w.length + 2 + max v1 v2) := by
          have z := max_nv v1 v2
          injection z with z
          rw [z, nvs_length]
          rfl
        exact Eq.subst (motive := fun z => Q z H15) ee.symm q'
theorem lprice_all (F : Fun K "_law_price" "_law_price" sLPrice f fd) (B : Bi mg) (mgF : mg "_law_price" = some (.ref f)) (bF : Binds K fd ["_law_habits", "_law_lot", "_law_group", "_law_tree"] [])
    (cT : Cl P w K mg base CX0 1 "_law_tests" ["_law_habits", "_law_lot", "_law_group"] spLTests) (cR : Cl P w K mg base CX0 1 "_law_reads" ["_law_habit_here", "_law_test"] spReads) : ∀ n, FnOk P w K mg base CX0 (n + 1) f fd ["_law_habits", "_law_lot", "_law_group", "_law_tree"] (spLPrice n)
  | 0 => lprice_none
  | n + 1 => ok_lprice F B mgF bF cT cR (lprice_all F B mgF bF cT cR n)
end
end Rs


set_option Elab.async false
set_option linter.all false
set_option maxRecDepth 100000
set_option maxHeartbeats 4000000
namespace Rs
open PySem PySem.Spec PyProof.Rows L2
abbrev sAlike : Stmt := topS 34
/-- both the same: at 1 numbers, at 2 lists of numbers, too -/
def spAl (n : Nat) : Sp := fun vs H Q _ => (1 ≤ n ∧ ∃ a : Nat, vs = [nv a, nv a] ∧ ∀ H', Kp [] H H' → Q (.bl true) H') ∨
  (2 ≤ n ∧ ∃ p q as, vs = [.ref p, .ref q] ∧ H p = some (.lst (nvs as)) ∧ H q = some (.lst (nvs as)) ∧ as.length ≤ 10 ∧ ∀ H', Kp [] H H' → Q (.bl true) H')
abbrev nAlike : List Str := ["_law_found", "_law_due", "_law_k"]
theorem scAlike : FnScope nAlike ["_law_found", "_law_due"] (defScope sAlike) := ⟨rfl, rfl, rfl, by decide +kernel, rfl, by decide +kernel, by decide +kernel⟩
theorem kit_il {K : PySem.W.Frag} : PySem.W.kitAny K (.type "int") [.type "tuple", .type "list"] = some false :=
  kitAny_cons (kit_ty (b := "tuple") (r := false) (by decide +kernel)) (fun _ => kitAny_cons (kit_ty (b := "list") (r := false) (by decide +kernel)) (fun _ => rfl) (fun z => nomatch z)) (fun z => nomatch z)
theorem kit_ll {K : PySem.W.Frag} : PySem.W.kitAny K (.type "list") [.type "tuple", .type "list"] = some true :=
  kitAny_cons (kit_ty (b := "tuple") (r := false) (by decide +kernel)) (fun _ => kitAny_cons (kit_ty (b := "list") (r := true) (by decide +kernel)) (fun z => nomatch z) (fun _ => rfl)) (fun z => nomatch z)
section
variable {P : Program} {w : World} {K : PySem.W.Frag} {mg : Str → Option Value} {base : Heap} {f : Addr} {fd : FuncData}
theorem alike_none : FnOk P w K mg base CX0 1 f fd ["_law_found", "_law_due"] (spAl 0) := by
  have no : ∀ vs H Q E, ¬ spAl 0 vs H Q E := fun vs H Q E h => by
    rcases h with ⟨h, _⟩ | ⟨h, _⟩ <;> omega
  exact ⟨fun vs H Q E h => absurd h (no vs H Q E), fun A outer s H args us vs Q E _ _ _ _ h => absurd h (no vs H Q E)⟩
theorem ok_alike {n : Nat} (F : Fun K "_law_alike" "_law_alike" sAlike f fd) (B : Bi mg) (mgF : mg "_law_alike" = some (.ref f)) (bF : Binds K fd ["_law_found", "_law_due"] [])
    (ih : FnOk P w K mg base CX0 (n + 1) f fd ["_law_found", "_law_due"] (spAl n)) : FnOk P w K mg base CX0 (n + 2) f fd ["_law_found", "_law_due"] (spAl (n + 1)) := by
  refine F.ok scAlike (fun vs H Q E h => ?_) (fun cdv A outer s H vs Q E hr h => ?_)
  · rcases h with ⟨_, a, rfl, _⟩ | ⟨_, p, q, as, rfl, _⟩ <;> rfl
  have hu64 := hr.units
  have nd := scAlike.nd
  have big := sizeLine_big
  refine ⟨_, pss_cons (ps_if (pt_val (pe_callB call_isiT rfl B.isi boot_isinstance (pa_cons (pv 1) (pa_cons (pe_tupN (pa_cons (pe_bltn (v := .ty "tuple") rfl B.tuple boot_tuple rfl) (pa_cons (pe_bltn (v := .ty "list") rfl B.list boot_list rfl) pa_nil))) pa_nil))))
      (pss_cons (ps_if (PW.pt (pw_or (pt_not (pt_val (pe_callB call_isiT rfl B.isi boot_isinstance (pa_cons (pv 0) (pa_cons (pe_tupN (pa_cons (pe_bltn (v := .ty "tuple") rfl B.tuple boot_tuple rfl) (pa_cons (pe_bltn (v := .ty "list") rfl B.list boot_list rfl) pa_nil))) pa_nil)))))
          (pw_or1 (pt_cmpR op_ne (pe_callB call_isi rfl B.isi boot_isinstance (pa_cons (pv 0) (pa_cons (pe_bltn (v := .ty "list") rfl B.list boot_list rfl) pa_nil))) (pe_callB call_isi rfl B.isi boot_isinstance (pa_cons (pv 1) (pa_cons (pe_bltn (v := .ty "list") rfl B.list boot_list rfl) pa_nil))) (nomark _)))))
          (pss_one (ps_ret pe_bl)) pss_nil)
      (pss_cons (ps_if (pt_cmpR op_ne (pe_callB call_len_seq rfl B.len boot_len (pa_cons (pv 0) pa_nil)) (pe_callB call_len_seq rfl B.len boot_len (pa_cons (pv 1) pa_nil)) (nomark _)) (pss_one (ps_ret pe_bl)) pss_nil)
      (pss_one (ps_ret (pe_cmpR (op_eqD hu64) (pe_lc (own := [("_law_k", 2)]) (g := gName 2) (tt := tNot (tB (tCall (spAl n) [] E0 (tCons (tOp (rIxL K) (tVar 0) (tVar 2)) (tCons (tOp (rIxL K) (tVar 1) (tVar 2)) tNil))))) rfl nd (pi_range1 rfl B.range (pa_cons (pe_callB call_len_seq rfl B.len boot_len (pa_cons (pv 1) pa_nil)) pa_nil)) (blkOk_by (own := [("_law_k", 2)]) (N := nAlike) (sc := defScope sAlike) (by decide +kernel))
          (fun _ _ _ _ _ => pg_name (i := 2) nd rfl (.inl rfl)) (fun _ _ _ _ _ => pts_one (pt_not (pt_val (pe_call ih hr rfl mgF F.kp bF .nil pass0 (pa_cons (pe_ix (r := rIxL K) ix_list (pv 0) (pv 2) (fun _ _ => rfl)) (pa_cons (pe_ix (r := rIxL K) ix_list (pv 1) (pv 2) (fun _ _ => rfl)) pa_nil)))))) (fun _ _ _ _ _ => pv 2)) (pe_lstN pa_nil) (nomark _)))))) pss_nil)
    (pss_cons (ps_if (PW.pt (pw_or (pt_cmp (pc_isN (pv 1))) (pw_or1 (pt_val (pe_callB call_isi rfl B.isi boot_isinstance (pa_cons (pv 1) (pa_cons (pe_bltn (v := .ty "str") rfl B.str PyProof.Rows.boot_str rfl) pa_nil)))))))
      (pss_one ps_never) pss_nil)
    (pss_one (ps_ret (pe_and (pe_callB call_isi rfl B.isi boot_isinstance (pa_cons (pv 0) (pa_cons (pe_bltn (v := .ty "int") rfl B.int PyProof.Rows.boot_int rfl) pa_nil)))
      (pe_and (pe_cmpR op_eq (pe_callB call_isi rfl B.isi boot_isinstance (pa_cons (pv 0) (pa_cons (pe_bltn (v := .ty "bool") rfl B.bool PyProof.Rows.boot_bool rfl) pa_nil))) (pe_callB call_isi rfl B.isi boot_isinstance (pa_cons (pv 1) (pa_cons (pe_bltn (v := .ty "bool") rfl B.bool PyProof.Rows.boot_bool rfl) pa_nil))) (nomark _))
        (pe_one (pe_cmpR op_eq (pv 0) (pv 1) (nomark _)))))))), ?_⟩
  rcases h with ⟨_, a, rfl, k⟩ | ⟨hn, p, q, as, rfl, hp, hq, h10, k⟩
  · refine ⟨_, rfl, by show 2 ≤ _; omega, fun tp H1 htp k1 e1 => ⟨_, tp, _, _, _, _, rfl, e1, .cons (.ty _) (.cons (.ty _) .nil), .base (.int _), kit_il, _, rfl, ?_⟩⟩
    refine ⟨_, rfl, _, rfl, _, rfl, _, _, _, _, _, rfl, .ty _, .base (.int _), kit_ty (b := "str") (r := false) (by decide +kernel), _, rfl, ?_⟩
    refine ⟨_, rfl, _, _, _, _, _, rfl, .ty _, .base (.int _), kit_ty (b := "int") (r := true) (by decide +kernel), _, rfl, ?_⟩
    refine ⟨_, rfl, _, _, _, _, _, rfl, .ty _, .base (.int _), kit_ty (b := "bool") (r := false) (by decide +kernel), _, rfl, _, _, _, _, _, rfl, .ty _, .base (.int _), kit_ty (b := "bool") (r := false) (by decide +kernel), rfl, _, rfl, ite2 (fun _ => ?_) (fun z => absurd (decide_eq_true rfl) z)⟩
    refine ⟨_, rfl, _, rfl, rfl, ?_⟩
    rw [decide_eq_true rfl]
    exact k H1 k1
  · refine ⟨_, rfl, by show 2 ≤ _; omega, fun tp H1 htp k1 e1 => ⟨_, tp, _, _, _, _, rfl, e1, .cons (.ty _) (.cons (.ty _) .nil), .base (.lst (k1.lst hq (by simp))), kit_ll, _, rfl, ?_⟩⟩
    refine ⟨_, rfl, by show 2 ≤ _; omega, fun tp2 H2 htp2 k2 e2 => ⟨_, tp2, _, _, _, _, rfl, e2, .cons (.ty _) (.cons (.ty _) .nil), .base (.lst (k2.lst (k1.lst hp (by simp)) (by simp))), kit_ll, _, rfl, ?_⟩⟩
    have k12 := k1.trans k2
    have hp2 := k12.lst hp (by simp)
    have hq2 := k12.lst hq (by simp)
    refine ⟨_, rfl, _, _, _, _, _, rfl, .ty _, .base (.lst hp2), kit_ty (b := "list") (r := true) (by decide +kernel), _, rfl, _, _, _, _, _, rfl, .ty _, .base (.lst hq2), kit_ty (b := "list") (r := true) (by decide +kernel), rfl, _, rfl, iteNS rfl ?_⟩
    refine ⟨_, rfl, p, _, rfl, .inl (SqL.of hp2), _, rfl, q, _, rfl, .inl (SqL.of hq2), rfl, _, rfl, iteNS rfl ?_⟩
    refine ⟨_, rfl, q, _, rfl, .inl (SqL.of hq2), _, rfl, by rw [nvs_length]; omega, by rw [nvs_length]; omega, fun C hC => lcN (walk_range (lo := 0)) [] (fun j l _ => l = []) hC (fun _ _ => rfl) (fun _ _ _ _ _ _ => trivial) ?_ ?_⟩
    · rintro j v l5 H10 H11 hj k10 e10 rfl ⟨rfl, rfl⟩
      have hj : j < as.length := by rw [nvs_length] at hj; omega
      have ha : as[j]? = some as[j] := List.getElem?_eq_getElem hj
      have ej : (0 : Int) + ((j : Nat) : Int) = ((j : Nat) : Int) := Int.zero_add _
      have hp10 := k10.lst hp2 (by simp [ne_of_none hp2 hC])
      have hq10 := k10.lst hq2 (by simp [ne_of_none hq2 hC])
      refine ⟨rfl, _, rfl, _, rfl, p, nvs as, _, _, rfl, rfl, SqL.of hp10, by rw [ej]; exact atI_nat (nvs_get ha), _, rfl, _, rfl, q, nvs as, _, _, rfl, rfl, SqL.of hq10, by rw [ej]; exact atI_nat (nvs_get ha), .inl ⟨by omega, as[j], rfl, fun H12 k12' => ?_⟩⟩
      have k1012 : Kp [C] H2 H12 := k10.trans k12'.up
      exact ⟨true, rfl, [], k1012, k12'.lst e10 (by simp), rfl⟩
    · rintro l8 H8 k8 e8 rfl
      refine ⟨Nat.zero_le _, fun p9 H9 hp9 k9 e9 => ⟨.list [], .list [], dp_lnil (k9.lst e8 (by simp)), dp_lnil e9, lnil_shaped, lnil_shaped, ?_⟩⟩
      rw [show PyData.eqv (.list []) (.list []) = true by simp [PyData.eqv, PyData.eqvAll]]
      exact k H9 (k12.trans (k8.trans k9))
theorem alike_all (F : Fun K "_law_alike" "_law_alike" sAlike f fd) (B : Bi mg) (mgF : mg "_law_alike" = some (.ref f)) (bF : Binds K fd ["_law_found", "_law_due"] []) : ∀ n, FnOk P w K mg base CX0 (n + 1) f fd ["_law_found", "_law_due"] (spAl n)
  | 0 => alike_none
  | n + 1 => ok_alike F B mgF bF (alike_all F B mgF bF n)
end
end Rs


set_option Elab.async false
set_option linter.all false
set_option maxRecDepth 100000
set_option maxHeartbeats 8000000
namespace Rs
open PySem PySem.Spec PyProof.Rows L2
abbrev sLaw : Stmt := topS 39
/-- list(a tuple) -/
def rListN : List V → Hp → VK → Prop := fun xs H Q => ∃ p ys, xs = [.ref p] ∧ H p = some (.tup ys) ∧ NewAt H (.lst ys) fun q H' => Q (.ref q) H'
theorem call_listN {X : Cx} : CallR X (.type "list") rListN := call_imp call_list_of fun xs H Q ⟨p, ys, e, h, q⟩ => ⟨p, ys, e, .inr (SqT.of h), q.of⟩
/-- what law asks of the two error classes -/
structure BX (K : PySem.W.Frag) (mg : Str → Option Value) (CB CS : Addr) : Prop where
  bt : BT K mg CB
  gS : mg "ShelfError" = some (.ref CS)
  te : PySem.W.exmOne K (.ref CB) (.ref CS) = some true
  ec : ExcC K CB
  kb : PySem.W.kitOne K (.ref CB) (.ref CB) = some true
def spLaw (K : PySem.W.Frag) (P1 P2 : Addr) : Sp := fun vs H Q _ => ∃ (sc : Addr) (ns : List Int), vs = [.ref sc] ∧ SqL K H sc (ns.map V.int) ∧ ns.length ≤ 63 ∧ GxR.TabG H P1 ∧ GxR.TabG H P2 ∧ ∀ H', Q (.bl true) H'
abbrev nLaw : List Str := ["_law_script", "_law_row", "_law_places", "_law_habits", "_law_lot", "_law_group", "_law_due", "_law_tree", "_law_longer", "_law_bad", "_law_place", "_law_word", "_law_read", "_law_wrong", "_law_value", "_law_told", "error", "_law_k"]
theorem scLaw : FnScope nLaw ["_law_script"] (defScope sLaw) := ⟨rfl, rfl, rfl, by decide +kernel, rfl, by decide +kernel, by decide +kernel⟩
/-- the suite -/
def tSuite (K : PySem.W.Frag) (CB : Addr) : Addr → Value → Option Addr → TS := fun a cls d D σ H => cls = .ref CB ∧ d = none ∧
  tAsg (tOp (rI0 fun i j => .int (i + j)) (tVar 13) (tCB (fun xs H Q => (∃ i, xs = [.int i] ∧ Q (.int i) H) ∨ ∃ k, xs = [.bl k] ∧ Q (.int (if k then 1 else 0)) H) (tCons (tCB (rIsE K CB a) (tCons (tVar 16) (tCons (tC (.ref CB)) tNil))) tNil))) (gName 13) D σ H
theorem suite_of {Y : Cx} {st : List Stmt} {K : PySem.W.Frag} {CB a : Addr} {cls : Value} {d : Option Addr} (h : cls = .ref CB → d = none →
    PSs Y st (tAsg (tOp (rI0 fun i j => .int (i + j)) (tVar 13) (tCB (fun xs H Q => (∃ i, xs = [.int i] ∧ Q (.int i) H) ∨ ∃ k, xs = [.bl k] ∧ Q (.int (if k then 1 else 0)) H) (tCons (tCB (rIsE K CB a) (tCons (tVar 16) (tCons (tC (.ref CB)) tNil))) tNil))) (gName 13))) : PSs Y st (tSuite K CB a cls d) :=
  ⟨fun pins s σ H D I ⟨e1, e2, q⟩ => (h e1 e2).run pins s σ H D I q⟩
/-- as lcN, where a row may be written to, too -/
theorem lcR {J : It} {n : Nat} {G : Hp → Prop} {Y : Nat → Hp → V → Hp → Prop} (w : Walk J n G Y) {g : TG} {tt : TT} {te : TE} {vs : List Nat} {σ : L2.St} {H1 : Hp} {D : Addr} {Qd : Hp → Prop} (xs : List Addr) (Jv : Nat → List V → Hp → Prop) (hD : H1 D = none)
    (h0 : ∀ H, Kp [] H1 H → Jv 0 [] H) (hG : ∀ i l H, i ≤ n → Kp (D :: xs) H1 H → Jv i l H → G H)
    (hs : ∀ i x l H H', i < n → Kp (D :: xs) H1 H → H D = some (.lst l) → Jv i l H → Y i H x H' → g x (wipe σ vs) H' fun σ2 H2 => wipe σ2 vs = wipe σ vs ∧ tt σ2 H2 fun b H3 =>
      if b = true then te σ2 H3 fun y H4 => ∃ acc, H4 D = some (.lst acc) ∧ acc.length < sizeLine ∧ PvL D xs H1 Jv (i + 1) (upd H4 D (.lst (acc ++ [y]))) else PvL D xs H1 Jv (i + 1) H3)
    (hd : ∀ l H, Kp xs H1 H → H D = some (.lst l) → Jv n l H → Qd H) :
    ∃ W : Nat → Nat → Hp → Prop, (∃ m, W 0 m (upd H1 D (.lst []))) ∧ ∀ i m H, W i m H →
      (J.stop i H ∧ Qd H) ∨ (J.go i H ∧ ∃ Nx : Hp → Prop, (∀ H', Nx H' → ∃ m', m' < m ∧ W (i + 1) m' H') ∧ ∀ x H', J.yld i H x H' → g x (wipe σ vs) H' fun σ2 H2 => wipe σ2 vs = wipe σ vs ∧ tt σ2 H2 fun b H3 =>
        if b = true then te σ2 H3 fun y H4 => ∃ acc, H4 D = some (.lst acc) ∧ acc.length < sizeLine ∧ Nx (upd H4 D (.lst (acc ++ [y]))) else Nx H3) :=
  lc_it w (PvL D xs H1 Jv) ⟨[], Kp.new hD _, upd_same, h0 _ (Kp.new hD _)⟩ (fun i H hi ⟨l, k, _, j⟩ => hG i l H hi k j) (fun i x H H' hi ⟨l, k, e, j⟩ y => hs i x l H H' hi k e j y) fun H ⟨l, k, e, j⟩ => hd l H (k.drop hD) e j
theorem PvL.add1 {D : Addr} {xs : List Addr} {H1 H4 : Hp} {Jv : Nat → List V → Hp → Prop} {i : Nat} {l : List V} {y : V} (k : Kp (D :: xs) H1 H4) (e : H4 D = some (.lst l)) (z : l.length < sizeLine) (j : ∀ H5, Kp [D] H4 H5 → Jv (i + 1) (l ++ [y]) H5) :
    ∃ acc, H4 D = some (.lst acc) ∧ acc.length < sizeLine ∧ PvL D xs H1 Jv (i + 1) (upd H4 D (.lst (acc ++ [y]))) := by
  have kp : Kp [D] H4 (upd H4 D (.lst (l ++ [y]))) := Kp.put (by rw [e]; trivial) List.mem_cons_self _
  exact ⟨l, e, z, l ++ [y], k.trans (kp.mono (by simp)), upd_same, j _ kp⟩
theorem ifs_split {c : TT} {t u : TS} {D : Ends} {σ : L2.St} {H : Hp} (LP : L2.St → Hp → Prop) (h1 : ∀ N : L2.St → Hp → Prop, (∀ σ' H', LP σ' H' → N σ' H') → tIfS c t u { D with nx := N } σ H) (h2 : ∀ σ' H', LP σ' H' → D.nx σ' H') : tIfS c t u D σ H := h1 D.nx h2
theorem tif_split {tA : TT} {ta tb : TE} {σ : L2.St} {H : Hp} {Q : VK} (LP : V → Hp → Prop) (h1 : ∀ Q' : VK, (∀ v H', LP v H' → Q' v H') → tIf tA ta tb σ H Q') (h2 : ∀ v H', LP v H' → Q v H') : tIf tA ta tb σ H Q := h1 Q h2
theorem RowAt.kp {xs : List Addr} {H H' : Hp} {a sc : Addr} (h : RowAt H a sc) (k : Kp xs H H') (hx : a ∉ xs) : RowAt H' a sc := by
  obtain ⟨i, s0, r, e, z⟩ := h
  exact ⟨i, s0, r, k.lst e hx, z⟩
theorem cut_last (L : List Nat) : cutV (nvs L) none (some (-1)) = nvs (L.take (L.length - 1)) := by
  unfold cutV
  have e1 : HT.sIx (nvs L).length 0 none = 0 := rfl
  have e2 : HT.sIx (nvs L).length (nvs L).length (some (-1)) = L.length - 1 := by
    show (if (-1 : Int) < 0 then ((-1 : Int) + ((nvs L).length : Int)).toNat else min (-1 : Int).toNat (nvs L).length) = _
    rw [if_pos (by decide), nvs_length]
    omega
  rw [e1, e2, List.drop_zero, Nat.sub_zero]
  unfold nvs
  rw [List.map_take]
theorem cut_first {α : Type} (as : List Addr) : cutV (as.map V.ref) none (some 1) = (as.take 1).map V.ref := by
  unfold cutV
  have e1 : HT.sIx (as.map V.ref).length 0 none = 0 := rfl
  have e2 : HT.sIx (as.map V.ref).length (as.map V.ref).length (some 1) = min 1 as.length := by
    have z := HT.sIx_nat (as.map V.ref).length (as.map V.ref).length 1
    rw [List.length_map] at z ⊢
    exact z
  rw [e1, e2, List.drop_zero, Nat.sub_zero, ← List.map_take]
  congr 1
  cases as with
  | nil => rfl
  | cons x as => simp
/-- a value that law tries -/
def VP (K : PySem.W.Frag) (hs : HabL) (lot : List Nat) (H : Hp) (v : V) (o : Option Nat) : Prop :=
  (o = none ∧ WV K hs lot (allG hs) H v none) ∨ (∃ a t x y n, v = .ref a ∧ TreeAt H a (.test t x y) ∧ (T.test t x y).dp ≤ 30 ∧ (T.test t x y).wl ≤ 90000 ∧ wv hs lot (allG hs) (.test t x y) = some n ∧ o = some n)
theorem VP.st {K : PySem.W.Frag} {hs : HabL} {lot : List Nat} {H H' : Hp} {v : V} {o : Option Nat} (h : VP K hs lot H v o) (k : Kp [] H H') : VP K hs lot H' v o := by
  rcases h with ⟨e, h⟩ | ⟨a, t, x, y, n, e, h1, h2, h3, h4, h5⟩
  · exact .inl ⟨e, h.st k⟩
  · exact .inr ⟨a, t, x, y, n, e, h1.st k.tup, h2, h3, h4, h5⟩
theorem VP.wv {K : PySem.W.Frag} {hs : HabL} {lot : List Nat} {H : Hp} {v : V} {o : Option Nat} (h : VP K hs lot H v o) : WV K hs lot (allG hs) H v o := by
  rcases h with ⟨rfl, h⟩ | ⟨a, t, x, y, n, e, h1, h2, h3, h4, rfl⟩
  · exact h
  · exact .inl ⟨a, _, e, h1, h2, h3, h4.symm⟩
theorem paired_app {α β : Type} {R : α → β → Prop} {l1 : List α} {l2 : List β} {m1 : List α} {m2 : List β} (h1 : Paired R l1 l2) (h2 : Paired R m1 m2) : Paired R (l1 ++ m1) (l2 ++ m2) := by
  induction h1 with
  | nil => exact h2
  | cons r t ih => exact .cons r ih
/-- how many are no trees -/
def cn (os : List (Option Nat)) : Nat := (os.filter Option.isNone).length
theorem cn_snoc {os : List (Option Nat)} {i : Nat} {o : Option Nat} (h : os[i]? = some o) : cn (os.take (i + 1)) = cn (os.take i) + (if o.isNone = true then 1 else 0) := by
  unfold cn
  rw [take_snoc h, List.filter_append, List.length_append]
  congr 1
  cases o <;> rfl
section
variable {P : Program} {w : World} {K : PySem.W.Frag} {mg : Str → Option Value} {base : Heap} {f : Addr} {fd : FuncData}
theorem ok_law {P1 P2 CB CS : Addr} (F : Fun K "law" "law" sLaw f fd) (B : Bi mg) (T : BX K mg CB CS)
    (cTk : Cl P w K mg base CX0 1 "_law_taken" ["_law_row", "_law_many"] (spTaken K)) (cHb : Cl P w K mg base CX0 2 "_law_habit" ["_law_row", "_law_places"] (spLHabit K)) (cAl : Cl P w K mg base CX0 3 "_law_alike" ["_law_found", "_law_due"] (spAl 2))
    (cLe : Cl P w K mg base CX0 7 "_law_least" ["_law_habits", "_law_lot", "_law_group", "_law_known"] (spLLeast 6)) (cPr : Cl P w K mg base CX0 7 "_law_price" ["_law_habits", "_law_lot", "_law_group", "_law_tree"] (spLPrice 6))
    (cLW : Cl P w K mg base CX0 10 "least_worst" ["habits", "lot"] (spLW P1 P2)) (cLT : Cl P w K mg base CX0 10 "least_tree" ["habits", "lot"] (spLT P1 P2))
    (cW : Cl P w K mg base (L2.CX P w) 9 "worst" ["habits", "lot", "tree"] (spWorst K CB P1 P2)) (cSh : Cl P w K mg base CX0 10 "shows_tree" ["habits", "lot", "value"] (spShows K P1 P2)) : FnOk P w K mg base CX0 11 f fd ["_law_script"] (spLaw K P1 P2) := by
  obtain ⟨fTk, fdTk, gTk, mTk, kTk, bTk⟩ := cTk
  obtain ⟨fHb, fdHb, gHb, mHb, kHb, bHb⟩ := cHb
  obtain ⟨fAl, fdAl, gAl, mAl, kAl, bAl⟩ := cAl
  obtain ⟨fLe, fdLe, gLe, mLe, kLe, bLe⟩ := cLe
  obtain ⟨fPr, fdPr, gPr, mPr, kPr, bPr⟩ := cPr
  obtain ⟨fLW, fdLW, gLW, mLW, kLW, bLW⟩ := cLW
  obtain ⟨fLT, fdLT, gLT, mLT, kLT, bLT⟩ := cLT
  obtain ⟨fW, fdW, gW, mW, kW, bW⟩ := cW
  obtain ⟨fSh, fdSh, gSh, mSh, kSh, bSh⟩ := cSh
  refine F.ok scLaw (fun vs H Q E h => ?_) (fun cdv A outer s H vs Q E hr h => ?_)
  · obtain ⟨sc, ns, rfl, _⟩ := h
    rfl
  obtain ⟨sc, ns, rfl, hsc, h63, t1, t2, q⟩ := h
  have nd := scLaw.nd
  have hu64 := hr.units
  have r1 : Room 1 (A.deeper (envOfC "law" (defScope sLaw) s.heap.objs.size f cdv)) := hr.mono (by decide)
  have r2 : Room 2 (A.deeper (envOfC "law" (defScope sLaw) s.heap.objs.size f cdv)) := hr.mono (by decide)
  have r3 : Room 3 (A.deeper (envOfC "law" (defScope sLaw) s.heap.objs.size f cdv)) := hr.mono (by decide)
  have r7 : Room 7 (A.deeper (envOfC "law" (defScope sLaw) s.heap.objs.size f cdv)) := hr.mono (by decide)
  have r9 : Room 9 (A.deeper (envOfC "law" (defScope sLaw) s.heap.objs.size f cdv)) := hr.mono (by decide)
  refine ⟨_, pss_cons (ps_set (i := 1) nd rfl (.inr rfl) (pe_lstN (pa_cons (pv 0) (pa_cons pe_int (pa_cons pe_int (pa_cons pe_int pa_nil))))))
    (pss_cons (ps_set (i := 2) nd rfl (.inr rfl) (pe_op op_add pe_int (pe_call gTk r1 rfl mTk kTk bTk .nil pass0 (pa_cons (pv 1) (pa_cons pe_int pa_nil)))))
    (pss_cons (ps_set (i := 3) nd rfl (.inl rfl) (pe_callTy call_tupL rfl B.tuple boot_tuple (pa_cons (pe_lc (own := [("_law_k", 17)]) (g := gName 17) (tt := tYes) (te := tCall (spLHabit K) [] E0 (tCons (tVar 1) (tCons (tVar 2) tNil))) rfl nd
          (pi_range1 rfl B.range (pa_cons (pe_op op_add pe_int (pe_call gTk r1 rfl mTk kTk bTk .nil pass0 (pa_cons (pv 1) (pa_cons pe_int pa_nil)))) pa_nil)) (blkOk_by (own := [("_law_k", 17)]) (N := nLaw) (sc := defScope sLaw) (by decide +kernel))
          (fun _ _ _ _ _ => pg_name (i := 17) nd rfl (.inl rfl)) (fun _ _ _ _ _ => pts_nil) (fun _ _ _ _ _ => pe_call gHb r2 rfl mHb kHb bHb .nil pass0 (pa_cons (pv 1) (pa_cons (pv 2) pa_nil)))) pa_nil)))
    (pss_cons (ps_if (pt_cmpR op_eq (pe_call gTk r1 rfl mTk kTk bTk .nil pass0 (pa_cons (pv 1) (pa_cons pe_int pa_nil))) pe_int (nomark _)) (pss_one (ps_set (i := 3) nd rfl (.inl rfl) (pe_op op_catTN (pv 3) (pe_slice sl_tupN (pv 3) po_none (po_some pe_int))))) pss_nil)
    (pss_cons (ps_set (i := 4) nd rfl (.inl rfl) (pe_callTy call_tupL rfl B.tuple boot_tuple (pa_cons (pe_lc (own := [("_law_place", 10)]) (g := gName 10) (tt := tTest (tOp (rI0 fun i j => .bl (decide (j < i))) (tCall (spTaken K) [] E0 (tCons (tVar 1) (tCons (tC (.int 4)) tNil))) (tC (.int 0)))) (te := tVar 10) rfl nd
          (pi_range1 rfl B.range (pa_cons (pv 2) pa_nil)) (blkOk_by (own := [("_law_place", 10)]) (N := nLaw) (sc := defScope sLaw) (by decide +kernel))
          (fun _ _ _ _ _ => pg_name (i := 10) nd rfl (.inl rfl)) (fun _ _ _ _ _ => pts_one (pt_cmpR op_gt (pe_call gTk r1 rfl mTk kTk bTk .nil pass0 (pa_cons (pv 1) (pa_cons pe_int pa_nil))) pe_int (nomark _))) (fun _ _ _ _ _ => pv 10)) pa_nil)))
    (pss_cons (ps_set (i := 4) nd rfl (.inl rfl) (pe_ifExp (pt_cmpR (op_neD hu64) (pv 4) (pe_tupN pa_nil) (nomark _)) (pv 4) (pe_tupN (pa_cons pe_int pa_nil))))
    (pss_cons (ps_set (i := 5) nd rfl (.inl rfl) (pe_tupR1 rfl rfl B.tuple rfl B.range (pe_callB call_len_seq rfl B.len boot_len (pa_cons (pv 3) pa_nil))))
    (pss_cons (ps_par (i := 6) (j := 7) rfl nd rfl rfl (by decide) rfl rfl (pa_cons (pe_call gLe r7 rfl mLe kLe bLe .nil pass0 (pa_cons (pv 3) (pa_cons (pv 4) (pa_cons (pv 5) (pa_cons pe_dctN pa_nil))))) (pa_cons (pe_call gLT hr rfl mLT kLT bLT .nil pass0 (pa_cons (pv 3) (pa_cons (pv 4) pa_nil))) pa_nil)) rfl)
    (pss_cons (ps_if (pt_not (pt_val (pe_call gAl r3 rfl mAl kAl bAl .nil pass0 (pa_cons (pe_lstN (pa_cons (pe_call gLW hr rfl mLW kLW bLW .nil pass0 (pa_cons (pv 3) (pa_cons (pv 4) pa_nil))) (pa_cons (pe_call gPr r7 rfl mPr kPr bPr .nil pass0 (pa_cons (pv 3) (pa_cons (pv 4) (pa_cons (pv 5) (pa_cons (pv 7) pa_nil)))))
        (pa_cons (pe_call gW r9 rfl mW kW bW .nil passL (pa_cons (pv 3) (pa_cons (pv 4) (pa_cons (pv 7) pa_nil)))) pa_nil)))) (pa_cons (pe_lstN (pa_cons (pv 6) (pa_cons (pv 6) (pa_cons (pv 6) pa_nil)))) pa_nil))))) (pss_one (ps_ret pe_bl)) pss_nil)
    (pss_cons (ps_if (pt_cmpR op_notBl (pe_call gSh hr rfl mSh kSh bSh .nil pass0 (pa_cons (pv 3) (pa_cons (pv 4) (pa_cons (pv 7) pa_nil)))) pe_bl (nomark _)) (pss_one (ps_ret pe_bl)) pss_nil)
    (pss_cons (ps_par (i := 8) (j := 9) rfl nd rfl rfl (by decide) rfl rfl (pa_cons pe_non (pa_cons (pe_lstN (pa_cons pe_non (pa_cons (pe_tupN pa_nil) (pa_cons (pe_tupN (pa_cons pe_str pa_nil)) (pa_cons (pe_tupN (pa_cons pe_str (pa_cons (pe_slice sl_tupN (pv 5) po_none (po_some (pe_un un_neg pe_int))) pa_nil)))
        (pa_cons (pe_tupN (pa_cons pe_str (pa_cons (pe_tupN (pa_cons pe_int (pa_cons (pe_tupN pa_nil) (pa_cons pe_int pa_nil)))) pa_nil))) (pa_cons (pe_lstN (pa_cons pe_str (pa_cons (pv 5) pa_nil))) (pa_cons (pe_tupN (pa_cons pe_str (pa_cons (pe_callTy call_listN rfl B.list boot_list (pa_cons (pv 5) pa_nil)) pa_nil))) pa_nil)))))))) pa_nil)) rfl)
    (pss_cons (ps_if (pt_cmpR op_eq (pe_ix ix_tup (pv 7) pe_int (fun _ _ => rfl)) pe_str (nomark _))
      (pss_cons (ps_asg (pe_ix ix_tup (pv 7) pe_int (fun _ _ => rfl)) (pg_tup rfl (pgs_cons (pg_name (i := 10) nd rfl (.inl rfl)) (pgs_cons (pg_name (i := 11) nd rfl (.inl rfl)) (pgs_cons (pg_name (i := 12) nd rfl (.inl rfl)) pgs_nil)))))
      (pss_cons (ps_set (i := 9) nd rfl (.inl rfl) (pe_op op_catN (pv 9) (pe_lstN (pa_cons (pe_tupN (pa_cons pe_str (pa_cons (pv 5) pa_nil))) (pa_cons (pe_tupN (pa_cons pe_str (pa_cons (pe_ix ix_tup (pv 7) pe_int (fun _ _ => rfl)) (pa_cons (pe_ix ix_tup (pv 7) pe_int (fun _ _ => rfl)) (pa_cons (pe_ix ix_tup (pv 7) pe_int (fun _ _ => rfl)) pa_nil))))) pa_nil)))))
      (pss_cons (ps_set (i := 9) nd rfl (.inl rfl) (pe_op op_catN (pv 9) (pe_lstN (pa_cons (pe_tupN (pa_cons pe_str (pa_cons (pe_tupN (pa_cons (pv 10) (pa_cons (pv 11) (pa_cons pe_int pa_nil)))) (pa_cons (pe_ix ix_tup (pv 7) pe_int (fun _ _ => rfl)) (pa_cons (pe_ix ix_tup (pv 7) pe_int (fun _ _ => rfl)) pa_nil))))) pa_nil))))
      (pss_one (ps_set (i := 9) nd rfl (.inl rfl) (pe_op op_catN (pv 9) (pe_lstN (pa_cons (pe_tupN (pa_cons pe_str (pa_cons (pe_tupN (pa_cons (pv 10) (pa_cons (pe_callTy call_listN rfl B.list boot_list (pa_cons (pv 11) pa_nil)) (pa_cons (pv 12) pa_nil)))) (pa_cons (pe_ix ix_tup (pv 7) pe_int (fun _ _ => rfl)) (pa_cons (pe_ix ix_tup (pv 7) pe_int (fun _ _ => rfl)) pa_nil))))) pa_nil)))))))) pss_nil)
    (pss_cons (ps_set (i := 13) nd rfl (.inl rfl) pe_int)
    (pss_cons (ps_for PassesOwn.never rfl (pi_list (pv 9)) (pg_name (i := 14) nd rfl (.inl rfl))
      (pss_cons (ps_set (i := 15) nd rfl (.inl rfl) pe_non)
      (pss_cons (ps_try_as (i := 16) (tb := fun W => tAsg (tCallS (spWorst K CB P1 P2) (WE W) (tCons (tVar 3) (tCons (tVar 4) (tCons (tVar 14) tNil)))) (gName 15)) (ts := tSuite K CB) (Wout := fun _ _ _ _ => False) rfl rfl nd rfl rfl ⟨rfl, by decide, .inl T.gS⟩ takes0
          (fun W pn xe tk _ => pss_one (ps_set (i := 15) nd rfl (.inl rfl) (by exact (pe_callS gW r9 rfl mW kW bW (fun σ => passAt tk σ) (by exact (pa_cons (pv 3) (pa_cons (pv 4) (pa_cons (pv 14) pa_nil))))))))
          (fun a oe cls d pn hz hf => ?suite))
      (pss_cons (ps_if (PW.pt (pw_and (pt_cmp (pc_notN (pv 15))) (pw_and1 (PW.pt (pw_or (pt_cmpR op_ne (pe_ix ix_tup (pv 14) pe_int (fun _ _ => rfl)) pe_str (nomark _)) (pw_or1 (pt_cmpR op_ne (pv 15) (pe_call gPr r7 rfl mPr kPr bPr .nil pass0 (pa_cons (pv 3) (pa_cons (pv 4) (pa_cons (pv 5) (pa_cons (pv 14) pa_nil))))) (nomark _)))))))) (pss_one (ps_ret pe_bl)) pss_nil)
      (pss_one (ps_if (PW.pt (pw_and (pt_cmp (pc_isN (pv 15))) (pw_and1 (pt_cmpR op_notBl (pe_call gSh hr rfl mSh kSh bSh .nil pass0 (pa_cons (pv 3) (pa_cons (pv 4) (pa_cons (pv 14) pa_nil)))) pe_bl (nomark _))))) (pss_one (ps_ret pe_bl)) pss_nil))))))
    (pss_one (ps_ret (pe_and (pe_cmpR op_ge (pv 13) (pe_op op_sub (pe_callB call_len_seq rfl B.len boot_len (pa_cons (pv 9) pa_nil)) pe_int) (nomark _)) (pe_one (pe_cmp (pc_isN (pv 8)))))))))))))))))))), ?_⟩
  case suite =>
    refine suite_of fun e1 e2 => ?_
    subst e1 e2
    exact pss_one (ps_set (i := 13) nd rfl (.inl rfl) (pe_op op_add (pv 13) (pe_callTy call_int1 rfl B.int PyProof.Rows.boot_int (pa_cons (pe_callB (call_isE T.ec hz hf) rfl B.isi boot_isinstance (pa_cons (pv 16) (pa_cons (pe_glob (v := .ref CB) rfl T.bt.gP rfl) pa_nil))) pa_nil))))
  have big := sizeLine_big
  -- the row
  refine ⟨_, rfl, by show 4 ≤ _; omega, fun a H1 ha k1 e1 => ?_⟩
  have row1 : RowAt H1 a sc := ⟨0, 11004, 0, e1, by decide, by decide, by decide, by decide⟩
  have scr1 : ScrAt K H1 a sc ns := ScrAt.new hsc ha k1
  -- the places
  refine ⟨_, rfl, a, sc, ns, 3, rfl, by omega, by omega, row1, scr1, h63, fun v2 H2 hv2 k2 row2 => ⟨_, _, rfl, rfl, ?_⟩⟩
  have epl : V.int (2 + ((v2 : Nat) : Int)) = nv (2 + v2) := by
    unfold nv
    rw [Int.natCast_add]
    rfl
  refine Eq.subst (motive := fun z => gName 2 z _ _ _) epl.symm ?_
  have p2 : 2 ≤ 2 + v2 := by omega
  have p5 : 2 + v2 ≤ 5 := by omega
  generalize 2 + v2 = pl at p2 p5
  -- the habits
  refine ⟨_, rfl, a, sc, ns, 4, rfl, by omega, by omega, row2, scr1.kp k2, h63, fun v3 H3 hv3 k3 row3 => ⟨_, _, rfl, rfl, _, rfl, by omega, by omega, fun Ch hCh => ?_⟩⟩
  have k13 := k2.trans k3
  have nac : a ≠ Ch := by
    obtain ⟨_, _, _, e, _⟩ := row3
    exact ne_of_none e hCh
  refine lcR (walk_range (lo := 0)) [a] (fun i vs H' => RowAt H' a sc ∧ ∃ (as : List Addr) (hs : HabL), vs = as.map V.ref ∧ hs.length = i ∧ (∀ h ∈ hs, HabOk pl h) ∧ Paired (fun b h => Hab1 H' b h) as hs) hCh (fun H k => ⟨row3.kp k (by simp), [], [], rfl, rfl, fun _ z => (List.not_mem_nil z).elim, .nil⟩) (fun _ _ _ _ _ _ => trivial) ?_ ?_
  · rintro i x l H4 H5 hi k4 e4 ⟨row4, as, hs, rfl, hl, hok, pr⟩ ⟨rfl, rfl⟩
    have k4a : Kp [a] H3 H5 := k4.drop hCh
    refine ⟨rfl, _, rfl, _, rfl, a, sc, ns, pl, rfl, p2, p5, row4, scr1.kp (k13.trans k4a), h63, fun hb h H6 k6 row6 hab hhok => ?_⟩
    have hi' : i < 4 := by omega
    refine PvL.add1 (k4.trans (k6.mono (by simp))) (k6.lst e4 (by simp [nac.symm])) ?_ fun H7 k7 => ?_
    · rw [List.length_map, Paired.length pr, hl]
      omega
    · refine ⟨row6.kp k7 (by simp [nac]), as ++ [hb], hs ++ [h], by rw [List.map_append]; rfl, by rw [List.length_append, hl]; rfl, fun h' hh' => ?_, paired_snoc (paired_imp pr fun b h z => z.st (k6.tup.trans k7.tup)) (hab.st k7.tup)⟩
      rcases List.mem_append.mp hh' with z | z
      · exact hok h' z
      · rw [List.mem_singleton.mp z]
        exact hhok
  rintro l4 H4 k4 e4 ⟨row4, as, hs0, rfl, hl0, hok0, pr0⟩
  refine ⟨Ch, _, rfl, e4, fun ht0 H5 hht k5 e5 => ?_⟩
  have k15 : Kp [a] H1 H5 := k13.trans (k4.trans k5.up)
  have row5 := row4.kp k5 (by simp)
  have pr5 := paired_imp pr0 fun b h z => Hab1.st z k5.tup
  have hl0' : hs0.length = 1 + v3 := by omega
  -- one shelf twice
  dsimp only [gName, tSeq]
  refine ifs_split (fun σ' H' => ∃ (hta : Addr) (hs : HabL), σ' = [some (.ref sc), some (.ref a), some (nv pl), some (.ref hta), none, none, none, none, none, none, none, none, none, none, none, none, none, none] ∧ Kp [a] H1 H' ∧ RowAt H' a sc ∧ HabsAt H' hta hs ∧ 1 ≤ hs.length ∧ hs.length ≤ 5 ∧ ∀ h ∈ hs, HabOk pl h) (fun N hN => ?_) ?_
  · refine ⟨_, rfl, a, sc, ns, 4, rfl, by omega, by omega, row5, scr1.kp k15, h63, fun v4 H6 hv4 k6 row6 => ⟨rfl, _, rfl, ite2 (fun _ => ?_) (fun _ => ?_)⟩⟩
    · refine ⟨_, rfl, _, rfl, _, rfl, ht0, _, rfl, k6.tup _ _ e5, fun q1 H7 k7 e7 => ⟨ht0, q1, _, _, rfl, rfl, k7.tup _ _ (k6.tup _ _ e5), e7, ?_, fun q2 H8 k8 e8 => ?_⟩⟩
      · have z := cutV_length (as.map V.ref) none (some 1)
        have z2 : (as.map V.ref).length = 1 + v3 := by rw [List.length_map, Paired.length pr0, hl0']
        omega
      rw [cut_first (α := Nat), ← List.map_append] at e8
      have k58 : Kp [a] H5 H8 := k6.trans (k7.trans k8).up
      have pr8 := paired_imp pr5 fun b h z => Hab1.st z k58.tup
      have pr8' : Paired (fun b h => Hab1 H8 b h) (as.take 1) (hs0.take 1) := by
        cases pr8 with
        | nil => exact .nil
        | cons r t => exact .cons r .nil
      have papp : Paired (fun b h => Hab1 H8 b h) (as ++ as.take 1) (hs0 ++ hs0.take 1) := by
        have : ∀ {l1 : List Addr} {l2 : HabL} {m1 : List Addr} {m2 : HabL}, Paired (fun b h => Hab1 H8 b h) l1 l2 → Paired (fun b h => Hab1 H8 b h) m1 m2 → Paired (fun b h => Hab1 H8 b h) (l1 ++ m1) (l2 ++ m2) := by
          intro l1 l2 m1 m2 h1 h2
          induction h1 with
          | nil => exact h2
          | cons r t ih => exact .cons r ih
        exact this pr8 pr8'
      refine hN _ _ ⟨q2, hs0 ++ hs0.take 1, rfl, k15.trans k58, row6.kp (k7.trans k8) (by simp), ⟨_, e8, papp⟩, ?_, ?_, fun h hh => ?_⟩
      · rw [List.length_append]
        omega
      · rw [List.length_append, List.length_take]
        omega
      · rcases List.mem_append.mp hh with z | z
        · exact hok0 h z
        · exact hok0 h (List.mem_of_mem_take z)
    · exact hN _ _ ⟨ht0, hs0, rfl, k15.trans k6, row6, ⟨as, k6.tup _ _ e5, paired_imp pr5 fun b h z => Hab1.st z k6.tup⟩, by omega, by omega, hok0⟩
  rintro _ H6 ⟨hta, hs, rfl, k16, row6, hh6, h1, h5, hok⟩
  -- the lot
  refine ⟨_, rfl, _, rfl, by omega, by omega, fun Cl hCl => ?_⟩
  have nal : a ≠ Cl := by
    obtain ⟨_, _, _, e, _⟩ := row6
    exact ne_of_none e hCl
  refine lcR (walk_range (lo := 0)) [a] (fun i vs H' => RowAt H' a sc ∧ ∃ ms : List Nat, vs = nvs ms ∧ ms.Pairwise (· < ·) ∧ (∀ x ∈ ms, x < i) ∧ ms.length ≤ i) hCl (fun H k => ⟨row6.kp k (by simp), [], rfl, List.Pairwise.nil, fun _ z => (List.not_mem_nil z).elim, Nat.le_refl _⟩) (fun _ _ _ _ _ _ => trivial) ?_ ?_
  · rintro i x l H7 H8 hi k7 e7 ⟨row7, ms, rfl, asc, lt, lm⟩ ⟨rfl, rfl⟩
    have hi : i < pl := by omega
    have k7a : Kp [a] H6 H8 := k7.drop hCl
    have ei : V.int ((0 : Int) + ((i : Nat) : Int)) = nv i := by
      unfold nv
      rw [Int.zero_add]
    refine ⟨rfl, _, rfl, a, sc, ns, 4, rfl, by omega, by omega, row7, scr1.kp (k16.trans k7a), h63, fun v8 H9 hv8 k9 row9 => ⟨_, _, rfl, rfl, _, rfl, ite2 (fun _ => ?_) (fun _ => ?_)⟩⟩
    · refine ⟨_, rfl, PvL.add1 (k7.trans (k9.mono (by simp))) (k9.lst e7 (by simp [nal.symm])) ?_ fun H10 k10 => ?_⟩
      · rw [nvs_length]
        omega
      · refine ⟨row9.kp k10 (by simp [nal]), ms ++ [i], by show nvs ms ++ [V.int ((0 : Int) + ((i : Nat) : Int))] = _; rw [ei, nvs_app]; rfl, ?_, fun x hx => ?_, by rw [List.length_append]; exact Nat.succ_le_succ lm⟩
        · refine List.pairwise_append.mpr ⟨asc, List.pairwise_singleton _ _, fun x hx y hy => ?_⟩
          rw [List.mem_singleton.mp hy]
          exact lt x hx
        · rcases List.mem_append.mp hx with z | z
          · exact Nat.lt_succ_of_lt (lt x z)
          · rw [List.mem_singleton.mp z]
            exact Nat.lt_succ_self _
    · exact ⟨_, k7.trans (k9.mono (by simp)), k9.lst e7 (by simp [nal.symm]), row9, ms, rfl, asc, fun x hx => Nat.lt_succ_of_lt (lt x hx), Nat.le_succ_of_le lm⟩
  rintro l7 H7 k7 e7 ⟨row7, ms, rfl, asc, lt, lm⟩
  have epl2 : ((pl : Nat) : Int).toNat = pl := by omega
  rw [epl2] at lt lm
  refine ⟨Cl, _, rfl, e7, fun la0 H8 hla k8 e8 => ?_⟩
  have k18 : Kp [a] H1 H8 := k16.trans (k7.trans k8.up)
  have hh8 := hh6.st (k7.tup.trans k8.tup)
  dsimp only [gName, tSeq, tAsg]
  refine tif_split (fun v H' => ∃ (la : Addr) (lot : List Nat), v = .ref la ∧ Kp [] H8 H' ∧ TN H' la lot ∧ lot ≠ [] ∧ lot.Pairwise (· < ·) ∧ ∀ x ∈ lot, x < pl) (fun Q' hQ => ?_) ?_
  · refine ⟨_, rfl, Nat.zero_le _, fun p9 H9 hp9 k9 e9 => ⟨nD ms, nD [], dp_n (k9.tup _ _ e8), dp_n e9, nD_shaped _, nD_shaped _, _, rfl, ?_⟩⟩
    rw [nD_eqv]
    by_cases hm : ms = []
    · rw [decide_eq_true hm]
      refine ⟨by show 1 ≤ _; omega, fun p10 H10 hp10 k10 e10 => hQ _ _ ⟨p10, [0], rfl, k9.trans k10, e10, by simp, List.pairwise_singleton _ _, fun x hx => by rw [List.mem_singleton.mp hx]; omega⟩⟩
    · rw [decide_eq_false hm]
      exact ⟨_, rfl, hQ _ _ ⟨la0, ms, rfl, k9, k9.tup _ _ e8, hm, asc, lt⟩⟩
  rintro _ H9 ⟨la, lot, rfl, k9, hl9, lne, lasc, llt⟩
  have G : Good hs pl lot := ⟨p2, p5, h1, h5, fun h hh => hok h hh, lne, lasc, llt⟩
  have k19 : Kp [a] H1 H9 := k18.trans k9.up
  have hh9 := hh8.st k9.tup
  have tb1 : GxR.TabG H9 P1 := k19.tab _ (k1.tab _ t1)
  have tb2 : GxR.TabG H9 P2 := k19.tab _ (k1.tab _ t2)
  -- the group
  obtain ⟨zs, ezs, hzs, _⟩ := hh9.at
  refine ⟨_, rfl, hta, zs, rfl, .inr (SqT.of ezs), _, rfl, by rw [hzs]; refine ⟨?_, ?_, ?_, ?_, ?_⟩ <;> omega, fun ga H10 hga k10 e10 => ?_⟩
  rw [hzs, rgV_nvs] at e10
  have e10 : TN H10 ga (allG hs) := e10
  have lg : (allG hs).length < 6 := by rw [List.length_range]; omega
  -- the least number, the least tree
  refine ⟨_, rfl, _, rfl, _, rfl, fun kd H11 hkd k11 e11 => ⟨hta, la, ga, kd, hs, pl, lot, allG hs, [], rfl, G, allG_grp hs, lg, hh9.st (k10.tup.trans k11.tup), k11.tup _ _ (k10.tup _ _ hl9), k11.tup _ _ e10, ⟨[], e11, .nil⟩, ⟨List.nodup_nil, fun _ z => (List.not_mem_nil z).elim⟩, fun D' H12 k12 _ _ => ?_⟩⟩
  have k1012 : Kp [] H10 H12 := (k11.up.trans k12 : Kp [kd] H10 H12).drop hkd
  have k912 : Kp [] H9 H12 := k10.trans k1012
  refine ⟨_, rfl, _, rfl, hta, la, hs, pl, lot, rfl, G, hh9.st k912.tup, k912.tup _ _ hl9, k912.tab _ tb1, k912.tab _ tb2, fun tra t H13 k13' et ew => ⟨_, _, rfl, ?_⟩⟩
  have k913 : Kp [] H9 H13 := k912.trans k13'
  have hh13 := hh9.st k913.tup
  have hl13 := k913.tup _ _ hl9
  have hg13 : TN H13 ga (allG hs) := k13'.tup _ _ (k1012.tup _ _ e10)
  have tc1 := k913.tab _ tb1
  have tc2 := k913.tab _ tb2
  have ldp : t.dp ≤ 30 := by
    have := (wv_dp ew).1
    omega
  have lwl : t.wl ≤ 90000 := by
    have := (wv_dp ew).2
    have z := lw_small5 G (allG_grp hs)
    omega
  -- three ways to the number
  refine ⟨_, rfl, _, rfl, hta, la, hs, pl, lot, rfl, G, hh13, hl13, tc1, tc2, fun H14 k14 => ?_⟩
  refine ⟨_, rfl, _, rfl, _, rfl, _, rfl, hta, la, ga, tra, hs, pl, lot, allG hs, t, _, rfl, G, allG_grp hs, lg, hh13.st k14.tup, k14.tup _ _ hl13, k14.tup _ _ hg13, et.st k14.tup, ldp, ew, fun H15 k15' => ?_⟩
  have k1315 := k14.trans k15'
  refine ⟨_, rfl, _, rfl, _, rfl, hta, la, .ref tra, hs, pl, lot, some (lw hs lot (allG hs)), rfl, G, hh13.st k1315.tup, k1315.tup _ _ hl13, k1315.tab _ tc1, k1315.tab _ tc2, .inl ⟨tra, t, rfl, et.st k1315.tup, ldp, lwl, ew.symm⟩, fun n en H16 k16' => ?_, fun z => nomatch z⟩
  cases en
  refine ⟨by show 3 ≤ _; omega, fun lp H17 hlp k17 e17 => ⟨_, rfl, _, rfl, _, rfl, by show 3 ≤ _; omega, fun lq H18 hlq k18' e18 => .inr ⟨by omega, lp, lq, [lw hs lot (allG hs), lw hs lot (allG hs), lw hs lot (allG hs)], rfl, k18'.lst e17 (by simp), e18, by show 3 ≤ 10; omega, fun H19 k19' => ⟨_, rfl, ?_⟩⟩⟩⟩
  have k1319 : Kp [] H13 H19 := k1315.trans (k16'.trans (k17.trans (k18'.trans k19')))
  have hh19 := hh13.st k1319.tup
  have hl19 := k1319.tup _ _ hl13
  have hg19 := k1319.tup _ _ hg13
  have td1 := k1319.tab _ tc1
  have td2 := k1319.tab _ tc2
  have et19 := et.st k1319.tup
  refine ⟨_, rfl, _, rfl, _, rfl, hta, la, .ref tra, hs, pl, lot, some (lw hs lot (allG hs)), rfl, G, hh19, hl19, td1, td2, .inl ⟨tra, t, rfl, et19, ldp, lwl, ew.symm⟩, fun H20 k20 => ⟨_, _, rfl, rfl, _, rfl, ?_⟩⟩
  refine iteNS (decide_eq_true rfl) ?_
  have hh20 := hh19.st k20.tup
  have hl20 := k20.tup _ _ hl19
  have hg20 := k20.tup _ _ hg19
  have te1 := k20.tab _ td1
  have te2 := k20.tab _ td2
  have et20 := et19.st k20.tup
  -- what is no tree
  refine ⟨Nat.zero_le _, fun p2' Ha hpa ka ea => ⟨by show 1 ≤ _; omega, fun p3 Hb hpb kb eb => ⟨_, rfl, _, rfl, _, rfl, ga, _, rfl, kb.tup _ _ (ka.tup _ _ hg20), fun p4a Hc0 kc0 ec0 => ⟨by show 2 ≤ _; omega, fun p4 Hc hpc kc ec => ⟨Nat.zero_le _, fun q1 Hd hpd kd' ed => ⟨by show 3 ≤ _; omega, fun q2 He hpe ke ee => ⟨by show 2 ≤ _; omega, fun p5' Hf hpf kf ef => ⟨_, rfl, by show 2 ≤ _; omega, fun p6 Hg hpg kg eg => ?_⟩⟩⟩⟩⟩⟩⟩⟩
  rw [cut_last] at ec0
  have k2a : Kp [] H20 Hg := ka.trans (kb.trans (kc0.trans (kc.trans (kd'.trans (ke.trans (kf.trans kg))))))
  refine ⟨_, rfl, ga, _, rfl, k2a.tup _ _ hg20, fun pl7 Hh hph kh eh => ⟨by show 2 ≤ _; omega, fun p7 Hi hpi ki ei => ⟨by show 7 ≤ _; omega, fun bd Hj hpj kj ej => ⟨_, _, rfl, ?_⟩⟩⟩⟩
  have kgj : Kp [] Hg Hj := kh.trans (ki.trans kj)
  have k20j : Kp [] H20 Hj := k2a.trans kgj
  have hhj := hh20.st k20j.tup
  have hlj := k20j.tup _ _ hl20
  have hgj := k20j.tup _ _ hg20
  have etj := et20.st k20j.tup
  have ndl : ¬ ((allG hs).take ((allG hs).length - 1) = allG hs) := fun z => by
    have z2 := congrArg List.length z
    rw [List.length_take, List.length_range] at z2
    omega
  -- the seven
  have w1 : VP K hs lot Hj .non none := .inl ⟨rfl, .inr ⟨.inl rfl, rfl⟩⟩
  have w2 : VP K hs lot Hj (.ref p2') none := .inl ⟨rfl, .inr ⟨.inr (.inl ⟨p2', rfl, (kb.trans (kc0.trans (kc.trans (kd'.trans (ke.trans (kf.trans (kg.trans kgj))))))).tup _ _ ea⟩), rfl⟩⟩
  have w3 : VP K hs lot Hj (.ref p3) none := .inl ⟨rfl, .inr ⟨.inr (.inr (.inl ⟨p3, rfl, (kc0.trans (kc.trans (kd'.trans (ke.trans (kf.trans (kg.trans kgj)))))).tup _ _ eb⟩)), rfl⟩⟩
  have w4 : VP K hs lot Hj (.ref p4) none := .inl ⟨rfl, .inl ⟨p4, .left ((allG hs).take ((allG hs).length - 1)), rfl, ⟨p4a, (kd'.trans (ke.trans (kf.trans (kg.trans kgj)))).tup _ _ ec, (kc.trans (kd'.trans (ke.trans (kf.trans (kg.trans kgj))))).tup _ _ ec0⟩, by show 2 ≤ 30; decide, Nat.zero_le _, (wv_left_no fun z => ndl z.1).symm⟩⟩
  have w5 : VP K hs lot Hj (.ref p5') none := .inl ⟨rfl, .inr ⟨.inr (.inr (.inr (.inl ⟨p5', q2, q1, rfl, (kg.trans kgj).tup _ _ ef, (kf.trans (kg.trans kgj)).tup _ _ ee, (ke.trans (kf.trans (kg.trans kgj))).tup _ _ ed⟩))), rfl⟩⟩
  have w6 : VP K hs lot Hj (.ref p6) none := .inl ⟨rfl, .inr ⟨.inr (.inr (.inr (.inr (.inl ⟨p6, _, rfl, kgj.lst eg (by simp)⟩)))), rfl⟩⟩
  have w7 : VP K hs lot Hj (.ref p7) none := .inl ⟨rfl, .inr ⟨.inr (.inr (.inr (.inr (.inr (.inl ⟨p7, pl7, allG hs, rfl, kj.tup _ _ ei, (ki.trans kj).lst eh (by simp)⟩))))), rfl⟩⟩
  have seven : Paired (fun v o => VP K hs lot Hj v o) [.non, .ref p2', .ref p3, .ref p4, .ref p5', .ref p6, .ref p7] [none, none, none, none, none, none, none] :=
    .cons w1 (.cons w2 (.cons w3 (.cons w4 (.cons w5 (.cons w6 (.cons w7 .nil))))))
  dsimp only [tSeq]
  refine ifs_split (fun σ' H' => ∃ (bd' : Addr) (vs : List V) (os : List (Option Nat)) (x10 x11 x12 : Option V), σ' = [some (.ref sc), some (.ref a), some (nv pl), some (.ref hta), some (.ref la), some (.ref ga), some (nv (lw hs lot (allG hs))), some (.ref tra), some .non, some (.ref bd'), x10, x11, x12, none, none, none, none, none] ∧ Kp [] Hj H' ∧ H' bd' = some (.lst vs) ∧ Paired (fun v o => VP K hs lot H' v o) vs os ∧ os.length ≤ 20 ∧ os.length ≤ cn os + 1) (fun N hN => ?_) ?_
  · cases t with
    | left g' =>
      obtain ⟨b, e, _⟩ := id etj
      exact ⟨_, rfl, tra, _, 0, _, rfl, rfl, SqT.of e, rfl, rfl, _, rfl, ite2 (fun z => absurd (of_decide_eq_true z) fun z => test_ne z.symm) (fun _ => hN _ _ ⟨bd, _, _, _, _, _, rfl, Kp.refl _, ej, seven, by decide, by decide⟩)⟩
    | test ts x y =>
      obtain ⟨b, c, d, e, hts, htx, hty⟩ := id etj
      obtain ⟨wb, ets, hwb⟩ := id hts
      obtain ⟨pr, _, _, _, _, _⟩ := wv_test_some ew
      have dd : x.dp ≤ 29 ∧ y.dp ≤ 29 ∧ x.wl ≤ 90000 ∧ y.wl ≤ 90000 ∧ ts.w.length ≤ 90000 := by
        have h1 : max ts.w.length (max x.wl y.wl) ≤ 90000 := lwl
        have h2 : 1 + max 2 (max x.dp y.dp) ≤ 30 := ldp
        omega
      refine ⟨_, rfl, tra, _, 0, _, rfl, rfl, SqT.of e, rfl, rfl, _, rfl, ite2 (fun _ => ?_) (fun z => absurd (decide_eq_true rfl) z)⟩
      refine ⟨_, rfl, tra, _, 1, _, rfl, rfl, SqT.of e, rfl, b, _, rfl, SqT.of ets, rfl, _, _, rfl, _, _, rfl, _, _, rfl, rfl, ?_⟩
      refine ⟨_, rfl, _, rfl, by show 2 ≤ _; omega, fun p8 G1 _ g1 e8 => ?_⟩
      refine ⟨_, rfl, tra, _, 1, _, rfl, rfl, SqT.of (g1.tup _ _ e), rfl, _, rfl, tra, _, 3, _, rfl, rfl, SqT.of (g1.tup _ _ e), rfl, _, rfl, tra, _, 2, _, rfl, rfl, SqT.of (g1.tup _ _ e), rfl, by show 4 ≤ _; omega, fun p9 G2 _ g2 e9 => ⟨by show 2 ≤ _; omega, fun lb G3 _ g3 elb => ?_⟩⟩
      have c3 : Kp [] Hj G3 := g1.trans (g2.trans g3)
      refine ⟨bd, lb, _, _, rfl, rfl, c3.lst ej (by simp), elb, by show 7 + 2 ≤ _; omega, fun bd2 G4 _ g4 e4b => ?_⟩
      have c4 := c3.trans g4
      refine ⟨_, rfl, _, rfl, _, rfl, by show 3 ≤ _; omega, fun q10 G5 _ g5' eq10 => ?_⟩
      have c5 := c4.trans g5'
      refine ⟨_, rfl, tra, _, 2, _, rfl, rfl, SqT.of (c5.tup _ _ e), rfl, _, rfl, tra, _, 3, _, rfl, rfl, SqT.of (c5.tup _ _ e), rfl, by show 4 ≤ _; omega, fun p10 G6 _ g6 ep10 => ⟨by show 1 ≤ _; omega, fun lb2 G7 _ g7 elb2 => ?_⟩⟩
      have c7 := c5.trans (g6.trans g7)
      refine ⟨bd2, lb2, _, _, rfl, rfl, (g5'.trans (g6.trans g7)).lst e4b (by simp), elb2, by show 9 + 1 ≤ _; omega, fun bd3 G8 _ g8 e8b => ?_⟩
      have c8 := c7.trans g8
      refine ⟨_, rfl, _, rfl, _, rfl, wb, _, rfl, c8.tup _ _ hwb, fun l11 G9 _ g9 el11 => ⟨_, rfl, by show 3 ≤ _; omega, fun q11 G10 _ g10 eq11 => ?_⟩⟩
      have c10 := c8.trans (g9.trans g10)
      refine ⟨_, rfl, tra, _, 2, _, rfl, rfl, SqT.of (c10.tup _ _ e), rfl, _, rfl, tra, _, 3, _, rfl, rfl, SqT.of (c10.tup _ _ e), rfl, by show 4 ≤ _; omega, fun p11 G11 _ g11 ep11 => ⟨by show 1 ≤ _; omega, fun lb3 G12 _ g12 elb3 => ?_⟩⟩
      refine ⟨bd3, lb3, _, _, rfl, rfl, (g9.trans (g10.trans (g11.trans g12))).lst e8b (by simp), elb3, by show 10 + 1 ≤ _; omega, fun bd4 G13 _ g13 ebd4 => ?_⟩
      have d12 : Kp [] G11 G13 := g12.trans g13
      have d10 : Kp [] G10 G13 := g11.trans d12
      have d9 : Kp [] G9 G13 := g10.trans d10
      have d8 : Kp [] G8 G13 := g9.trans d9
      have d6 : Kp [] G6 G13 := g7.trans (g8.trans d8)
      have d5 : Kp [] G5 G13 := g6.trans d6
      have d2 : Kp [] G2 G13 := g3.trans (g4.trans (g5'.trans d5))
      have d1 : Kp [] G1 G13 := g2.trans d2
      have d0 : Kp [] Hj G13 := g1.trans d1
      have w8 : VP K hs lot G13 (.ref p8) none := .inl ⟨rfl, .inl ⟨p8, .left (allG hs), rfl, ⟨ga, d1.tup _ _ e8, d0.tup _ _ hgj⟩, by show 2 ≤ 30; decide, Nat.zero_le _, (wv_left_no fun z => z.2 ⟨ts, pr⟩).symm⟩⟩
      have t9 : TreeAt G13 p9 (.test ts y x) := ⟨b, d, c, d2.tup _ _ e9, hts.st d0.tup, hty.st d0.tup, htx.st d0.tup⟩
      have q9 : (Rs.T.test ts y x).dp ≤ 30 := by
        show 1 + max 2 (max y.dp x.dp) ≤ 30
        omega
      have q9' : (Rs.T.test ts y x).wl ≤ 90000 := by
        show max ts.w.length (max y.wl x.wl) ≤ 90000
        omega
      obtain ⟨o9, w9⟩ : ∃ o9, VP K hs lot G13 (.ref p9) o9 := by
        cases h9 : wv hs lot (allG hs) (.test ts y x) with
        | none => exact ⟨none, .inl ⟨rfl, .inl ⟨p9, _, rfl, t9, q9, q9', h9.symm⟩⟩⟩
        | some n => exact ⟨some n, .inr ⟨p9, ts, y, x, n, rfl, t9, q9, q9', h9, rfl⟩⟩
      have w10 : VP K hs lot G13 (.ref p10) none := by
        refine .inl ⟨rfl, .inl ⟨p10, .test ⟨ts.p, ts.w, 9⟩ x y, rfl, ⟨q10, c, d, d6.tup _ _ ep10, ⟨wb, d5.tup _ _ eq10, d0.tup _ _ hwb⟩, htx.st d0.tup, hty.st d0.tup⟩, ?_, ?_, (wv_test_no fun p => ?_).symm⟩⟩
        · show 1 + max 2 (max x.dp y.dp) ≤ 30
          omega
        · show max ts.w.length (max x.wl y.wl) ≤ 90000
          omega
        · have := llt 9 p.1.2.2
          omega
      have w11 : VP K hs lot G13 (.ref p11) none := .inl ⟨rfl, .inr ⟨.inr (.inr (.inr (.inr (.inr (.inr ⟨p11, q11, c, d, l11, ts.p, ts.r, ts.w, x, y, rfl, d12.tup _ _ ep11, d10.tup _ _ eq11, d9.lst el11 (by simp), htx.st d0.tup, hty.st d0.tup, by omega, by omega⟩))))), rfl⟩⟩
      refine hN _ _ ⟨bd4, _, [none, none, none, none, none, none, none] ++ [none, o9] ++ [none] ++ [none], _, _, _, rfl, d0, ebd4, paired_app (paired_app (paired_app (paired_imp seven fun v o z => z.st d0) (.cons w8 (.cons w9 .nil))) (.cons w10 .nil)) (.cons w11 .nil), by show 11 ≤ 20; decide, ?_⟩
      cases o9 with
      | none => exact (by decide : 11 ≤ 12)
      | some n => exact Nat.le_refl 11
  rintro _ H21 ⟨bd', vs, os, x10, x11, x12, rfl, k21, ebd, pvs, l20, lcn⟩
  have hh21 := hhj.st k21.tup
  have hl21 := k21.tup _ _ hlj
  have hg21 := k21.tup _ _ hgj
  have k2021 := k20j.trans k21
  have tf1 := k2021.tab _ te1
  have tf2 := k2021.tab _ te2
  refine ⟨_, rfl, bd', rfl, ⟨_, SqL.of ebd⟩, ?_⟩
  refine for_list (K := K) (a := bd') (xs := vs) (fun i σ H' => ∃ x14 x15, σ = [some (.ref sc), some (.ref a), some (nv pl), some (.ref hta), some (.ref la), some (.ref ga), some (nv (lw hs lot (allG hs))), some (.ref tra), some .non, some (.ref bd'), x10, x11, x12, some (nv (cn (os.take i))), x14, x15, none, none] ∧ Kp [] H21 H')
    ⟨none, none, rfl, Kp.refl _⟩ (fun i σ H' _ ⟨_, _, _, k⟩ => SqL.of (k.lst ebd (by simp))) ?_ ?_
  · rintro i v σ H22 hx ⟨x14, x15, rfl, k22⟩
    obtain ⟨o, ho, hv⟩ := paired_get pvs hx
    have hv22 := VP.st hv k22
    have hh22 := hh21.st k22.tup
    have hl22 := k22.tup _ _ hl21
    have hg22 := k22.tup _ _ hg21
    have tg1 := k22.tab _ tf1
    have tg2 := k22.tab _ tf2
    refine ⟨_, rfl, _, rfl, _, rfl, hta, la, v, hs, pl, lot, o, rfl, G, hh22, hl22, tg1, tg2, hv22.wv, fun n en H23 k23 => ?_, fun en H23 k23 => ⟨true, T.te, fun _ a0 ha0 => ⟨rfl, rfl, ?_⟩, fun z => nomatch z⟩⟩
    · subst en
      rcases hv22 with ⟨z, _⟩ | ⟨va, t, x, y, n', rfl, h1, h2, h3, h4, h5⟩
      · cases z
      cases h5
      have h1' := h1.st k23.tup
      obtain ⟨b, c, d, e, _, _, _⟩ := id h1'
      refine ⟨_, rfl, _, rfl, ite2 (fun _ => ?_) (fun z => absurd rfl z)⟩
      refine ⟨_, rfl, va, _, 0, _, rfl, rfl, SqT.of e, rfl, rfl, _, rfl, iteNS rfl ?_⟩
      refine ⟨_, rfl, _, rfl, _, rfl, _, rfl, _, rfl, hta, la, ga, va, hs, pl, lot, allG hs, _, n, rfl, G, allG_grp hs, lg, hh22.st k23.tup, k23.tup _ _ hl22, k23.tup _ _ hg22, h1', h2, h4, fun H24 k24 => ⟨rfl, _, rfl, iteNS rfl ?_⟩⟩
      refine ⟨_, rfl, _, rfl, ?_⟩
      have ec : cn (os.take (i + 1)) = cn (os.take i) := cn_snoc ho
      exact ⟨some (.ref va), some (nv n), by rw [ec]; rfl, k22.trans (k23.trans k24)⟩
    · subst en
      have ec : nv (cn (os.take (i + 1))) = V.int (((cn (os.take i) : Nat) : Int) + 1) := by
        rw [cn_snoc ho]
        rfl
      refine ⟨_, rfl, _, rfl, .ref CB, .ref CB, true, rfl, fun u r => r, T.kb, .inr ⟨_, rfl, _, _, rfl, rfl, ?_⟩⟩
      refine ⟨_, rfl, _, rfl, ?_⟩
      refine ⟨_, rfl, _, rfl, ite2 (fun _ => ?_) (fun z => absurd rfl z)⟩
      refine ⟨_, rfl, _, rfl, _, rfl, hta, la, v, hs, pl, lot, none, rfl, G, hh22.st k23.tup, k23.tup _ _ hl22, k23.tab _ tg1, k23.tab _ tg2, hv22.wv.st k23, fun H24 k24 => ⟨_, _, rfl, rfl, _, rfl, iteNS rfl ?_⟩⟩
      exact ⟨some v, some .non, by rw [ec]; rfl, k22.trans (k23.trans k24)⟩
  · rintro σ H22 ⟨x14, x15, rfl, k22⟩
    refine ⟨_, rfl, _, rfl, bd', vs, rfl, .inl (SqL.of (k22.lst ebd (by simp))), _, _, rfl, rfl, _, _, rfl, rfl, _, rfl, ?_⟩
    have lv := Paired.length pvs
    rw [lv, List.take_length, decide_eq_true (by omega : ((os.length : Nat) : Int) - 1 ≤ ((cn os : Nat) : Int))]
    exact ⟨_, rfl, q H22⟩
end
end Rs


set_option Elab.async false
set_option linter.all false
set_option maxRecDepth 100000
set_option maxHeartbeats 4000000
/-! the end: what the program's top has made, and the law's walk -/
namespace Rs
open PySem PySem.Spec PyProof.Rows L2
/-- the def x of the module -/
def DefK (K : PySem.W.Frag) (mg : Str → Option Value) (x : Str) (st : Stmt) : Prop := ∃ f fd, Fun K x x st f fd ∧ mg x = some (.ref f)
theorem dk {K : PySem.W.Frag} {h : Heap} {mg : Str → Option Value} {x : Str} {st : Stmt} {f : Addr} {oc : Value} {od an : Option Addr} {osl : Array (Option Value)} {kV doc pm cdv ct : Value} (X : K.In h) (G : h.Ns mainGlobals mg)
    (a : PySem.W.nsIn K mainGlobals x = some (some (.ref f))) (l : K.lookup f = some ⟨oc, od, .func (PySem.W.fnOf x x (defArgs st) (defBody st) (defScope st) .none kV doc pm an cdv ct), osl⟩) (c : PySem.W.codeIn K cdv x = true) (k : PySem.W.keepIn K (.ref f) = true) : DefK K mg x st :=
  ⟨f, _, fun_mk l c k, PySem.W.mg_of X G a⟩
/-- .. whose code object, at c, and its table, at P, are known -/
def DefC (K : PySem.W.Frag) (mg : Str → Option Value) (x : Str) (st : Stmt) (c P : Addr) : Prop := (∃ f fd, FunC K x x st f fd c ∧ mg x = some (.ref f) ∧ PySem.W.keepIn K (.ref f) = true) ∧ PySem.W.tabIn K x = some (c, P)
theorem dc {K : PySem.W.Frag} {h : Heap} {mg : Str → Option Value} {x : Str} {st : Stmt} {f c P : Addr} {oc : Value} {od an : Option Addr} {osl : Array (Option Value)} {kV doc pm ct : Value} {oc2 : Value} {od2 : Option Addr} {vs : Array Value} {osl2 : Array (Option Value)} (X : K.In h) (G : h.Ns mainGlobals mg)
    (a : PySem.W.nsIn K mainGlobals x = some (some (.ref f))) (l : K.lookup f = some ⟨oc, od, .func (PySem.W.fnOf x x (defArgs st) (defBody st) (defScope st) .none kV doc pm an (.ref c) ct), osl⟩) (cc : PySem.W.codeIn K (.ref c) x = true) (k : PySem.W.keepIn K (.ref f) = true)
    (l2 : K.lookup c = some ⟨oc2, od2, .fields vs, osl2⟩) (h11 : vs[11]? = some (.ref P)) : DefC K mg x st c P := by
  refine ⟨⟨f, _, ⟨oc, od, kV, doc, pm, an, ct, osl, rfl, l, cc⟩, PySem.W.mg_of X G a, k⟩, ?_⟩
  unfold PySem.W.tabIn
  rw [a]
  show (match K.lookup f with | some ⟨_, _, .func fd, _⟩ => _ | _ => none) = _
  rw [l]
  show (match K.lookup c with | some ⟨_, _, .fields vs, _⟩ => _ | _ => none) = _
  rw [l2]
  show (match (vs[11]? : Option Value) with | some (.ref P) => some (c, P) | _ => none) = _
  rw [h11]
theorem FunC.binds {K : PySem.W.Frag} {x qual : Str} {st : Stmt} {f : Addr} {fd : FuncData} {c : Addr} {ps : List Str} (F : FunC K x qual st f fd c)
    (h : ∀ (kV doc pm : Value) (an : Option Addr) (cdv ct : Value) (us : List Value), us.length = ps.length → bindArgs (PySem.W.fnOf x qual (defArgs st) (defBody st) (defScope st) .none kV doc pm an cdv ct) ⟨us, []⟩ = pure (ps.zip us)) : Binds K fd ps [] := by
  obtain ⟨oc, od, kV, doc, pm, an, ct, osl, rfl, lk, hcd⟩ := F
  exact .all (h kV doc pm an (.ref c) ct)
/-- a method of Best -/
structure BM (K : PySem.W.Frag) (C fI fT : Addr) : Prop where
  mi : Mk K C fI
  mt : Meth K C "tree" fT
  fi : ∃ fd, Fun K "__init__" "Best.__init__" sBInit fI fd
  ft : ∃ fd, Fun K "tree" "Best.tree" sBTree fT fd
/-- all that is asked of the top -/
structure Tp (K : PySem.W.Frag) (mg : Str → Option Value) (c1 P1 c2 P2 C fI fT CB CS : Addr) : Prop where
  bi : Bi mg
  cn : Cn mg
  num : DefK K mg "is_number" sNum
  perm : DefC K mg "is_permutation" sPerm c1 P1
  needH : DefK K mg "need_habit" sNeedH
  needL : DefC K mg "need_lot" sNeedL c2 P2
  needM : DefK K mg "need_many" sNeedM
  marks : DefK K mg "marks_of" sMarks
  part : DefK K mg "partings" sPart
  touch : DefK K mg "touches_of" sTouch
  bc : BC K mg C
  bm : BM K C fI fT
  best : DefK K mg "best_tree" sBest
  lw : DefK K mg "least_worst" sLeastW
  lt : DefK K mg "least_tree" sLeastT
  isT : DefK K mg "is_test_of" sIsTest
  reads : DefK K mg "reads_mark" sReads
  worstOf : DefK K mg "worst_of" sWorstOf
  worst : DefK K mg "worst" sWorst
  shows : DefK K mg "shows_tree" sShows
  taken : DefK K mg "_law_taken" sTaken
  habit : DefK K mg "_law_habit" sLHabit
  alike : DefK K mg "_law_alike" sAlike
  lreads : DefK K mg "_law_reads" sLReads
  ltests : DefK K mg "_law_tests" sLTests
  lleast : DefK K mg "_law_least" sLLeast
  lprice : DefK K mg "_law_price" sLPrice
  law : DefK K mg "law" sLaw
  bx : BX K mg CB CS
theorem assemble {P : Program} {w : World} {K : PySem.W.Frag} {mg : Str → Option Value} {c1 P1 c2 P2 C fI fT CB CS fa : Addr} (T : Tp K mg c1 P1 c2 P2 C fI fT CB CS) (hfa : mg "law" = some (.ref fa)) :
    ∃ fd : FuncData, (∀ (s : Shared) (u : Value), BindsTo s fd ⟨[u], []⟩ [("_law_script", u)]) ∧ ∀ base : Heap, K.In base → base.Ns mainGlobals mg → GxR.TabB base mg c1 P1 → GxR.TabB base mg c2 P2 → FnOk P w K mg base CX0 11 fa fd ["_law_script"] (spLaw K P1 P2) := by
  obtain ⟨fL, fdL, FL, mL⟩ := T.law
  have e := hfa.symm.trans mL
  cases e
  have bL := FL.binds (ps := ["_law_script"]) fun _ _ _ _ _ _ us hl => match us, hl with | [_], _ => rfl
  refine ⟨fdL, ?_, fun base KX G T1 T2 => ?_⟩
  · obtain ⟨oc, od, kV, doc, pm, an, cdv, ct, osl, rfl, lk, hcd⟩ := FL.ex
    exact fun s v => .of_eq rfl
  have B := T.bi
  have N := T.cn
  obtain ⟨f1, d1, F1, m1⟩ := T.num
  have b1 := F1.binds (ps := ["value", "low", "high"]) fun _ _ _ _ _ _ us hl => match us, hl with | [_, _, _], _ => rfl
  have nc : NumC K mg := ⟨f1, d1, F1, b1, m1⟩
  have cNum : Cl P w K mg base CX0 1 "is_number" ["value", "low", "high"] spNum := ⟨f1, d1, ok_num F1 B, m1, F1.kp, b1⟩
  obtain ⟨⟨f2, d2, F2, m2, k2⟩, _⟩ := T.perm
  have cPerm : Cl P w K mg base CX0 1 "is_permutation" ["value", "many"] (spPerm P1) := ⟨f2, d2, ok_perm F2 B T1 nc, m2, k2, F2.binds fun _ _ _ _ _ _ us hl => match us, hl with | [_, _], _ => rfl⟩
  obtain ⟨f3, d3, F3, m3⟩ := T.needH
  have cNH : Cl P w K mg base CX0 2 "need_habit" ["value"] (spNeedH P1) := ⟨f3, d3, ok_needH F3 B N cPerm, m3, F3.kp, F3.binds fun _ _ _ _ _ _ us hl => match us, hl with | [_], _ => rfl⟩
  obtain ⟨⟨f4, d4, F4, m4, k4⟩, _⟩ := T.needL
  have cNL : Cl P w K mg base CX0 1 "need_lot" ["habit", "value"] (spNeedL P2) := ⟨f4, d4, ok_needL F4 B T2 nc, m4, k4, F4.binds fun _ _ _ _ _ _ us hl => match us, hl with | [_, _], _ => rfl⟩
  obtain ⟨f5, d5, F5, m5⟩ := T.needM
  have cNM : Cl P w K mg base CX0 3 "need_many" ["value"] (spNeedM P1) := ⟨f5, d5, ok_needM F5 B N cNH, m5, F5.kp, F5.binds fun _ _ _ _ _ _ us hl => match us, hl with | [_], _ => rfl⟩
  obtain ⟨f6, d6, F6, m6⟩ := T.marks
  have cMk : Cl P w K mg base CX0 1 "marks_of" ["habits", "lot", "group"] spMarks := ⟨f6, d6, ok_marks F6 B, m6, F6.kp, F6.binds fun _ _ _ _ _ _ us hl => match us, hl with | [_, _, _], _ => rfl⟩
  obtain ⟨f7, d7, F7, m7⟩ := T.part
  have cPa : Cl P w K mg base CX0 2 "partings" ["habits", "lot", "group"] spPart := ⟨f7, d7, ok_part F7 B cMk, m7, F7.kp, F7.binds fun _ _ _ _ _ _ us hl => match us, hl with | [_, _, _], _ => rfl⟩
  obtain ⟨f8, d8, F8, m8⟩ := T.touch
  have cTo : Cl P w K mg base CX0 1 "touches_of" ["test"] spTouch := ⟨f8, d8, ok_touch F8 B, m8, F8.kp, F8.binds fun _ _ _ _ _ _ us hl => match us, hl with | [_], _ => rfl⟩
  obtain ⟨dI, FI⟩ := T.bm.fi
  obtain ⟨dT, FT⟩ := T.bm.ft
  have bI := FI.binds (ps := ["self", "habits", "lot"]) fun _ _ _ _ _ _ us hl => match us, hl with | [_, _, _], _ => rfl
  have bT := FT.binds (ps := ["self", "group"]) fun _ _ _ _ _ _ us hl => match us, hl with | [_, _], _ => rfl
  have gT := btree_all (P := P) (w := w) (base := base) FT T.bc B N T.bm.mt bT cPa cTo 6
  obtain ⟨f9, d9, F9, m9⟩ := T.best
  have cBe : Cl P w K mg base CX0 9 "best_tree" ["habits", "lot"] spBest := ⟨f9, d9, ok_best F9 B T.bc T.bm.mi (ok_binit FI T.bc) bI T.bm.mt gT bT, m9, F9.kp, F9.binds fun _ _ _ _ _ _ us hl => match us, hl with | [_, _], _ => rfl⟩
  obtain ⟨f10, d10, F10, m10⟩ := T.lw
  have cLW : Cl P w K mg base CX0 10 "least_worst" ["habits", "lot"] (spLW P1 P2) := ⟨f10, d10, ok_leastW F10 cNM cNL cBe, m10, F10.kp, F10.binds fun _ _ _ _ _ _ us hl => match us, hl with | [_, _], _ => rfl⟩
  obtain ⟨f11, d11, F11, m11⟩ := T.lt
  have cLT : Cl P w K mg base CX0 10 "least_tree" ["habits", "lot"] (spLT P1 P2) := ⟨f11, d11, ok_leastT F11 cNM cNL cBe, m11, F11.kp, F11.binds fun _ _ _ _ _ _ us hl => match us, hl with | [_, _], _ => rfl⟩
  obtain ⟨f12, d12, F12, m12⟩ := T.isT
  have cIs : Cl P w K mg base CX0 2 "is_test_of" ["habits", "lot", "value"] spIsTest := ⟨f12, d12, ok_isTest F12 B cNum, m12, F12.kp, F12.binds fun _ _ _ _ _ _ us hl => match us, hl with | [_, _, _], _ => rfl⟩
  obtain ⟨f13, d13, F13, m13⟩ := T.reads
  have cRe : Cl P w K mg base CX0 1 "reads_mark" ["habit", "test"] spReads := ⟨f13, d13, ok_reads F13, m13, F13.kp, F13.binds fun _ _ _ _ _ _ us hl => match us, hl with | [_, _], _ => rfl⟩
  obtain ⟨f14, d14, F14, m14⟩ := T.worstOf
  have b14 := F14.binds (ps := ["habits", "lot", "group", "value"]) fun _ _ _ _ _ _ us hl => match us, hl with | [_, _, _, _], _ => rfl
  have cWo : Cl P w K mg base CX0 8 "worst_of" ["habits", "lot", "group", "value"] (spWorstOf K 6) := ⟨f14, d14, worst_all F14 B N m14 b14 cPa cTo cRe cIs 6, m14, F14.kp, b14⟩
  obtain ⟨f15, d15, F15, m15⟩ := T.worst
  have cW : Cl P w K mg base (L2.CX P w) 9 "worst" ["habits", "lot", "tree"] (spWorst K CB P1 P2) := ⟨f15, d15, ok_worst F15 B T.bx.bt cNM cNL cWo, m15, F15.kp, F15.binds fun _ _ _ _ _ _ us hl => match us, hl with | [_, _, _], _ => rfl⟩
  obtain ⟨f16, d16, F16, m16⟩ := T.shows
  have cSh : Cl P w K mg base CX0 10 "shows_tree" ["habits", "lot", "value"] (spShows K P1 P2) := ⟨f16, d16, ok_shows F16 B cNM cNL cWo cBe, m16, F16.kp, F16.binds fun _ _ _ _ _ _ us hl => match us, hl with | [_, _, _], _ => rfl⟩
  obtain ⟨f17, d17, F17, m17⟩ := T.taken
  have cTk : Cl P w K mg base CX0 1 "_law_taken" ["_law_row", "_law_many"] (spTaken K) := ⟨f17, d17, ok_taken F17 B, m17, F17.kp, F17.binds fun _ _ _ _ _ _ us hl => match us, hl with | [_, _], _ => rfl⟩
  obtain ⟨f18, d18, F18, m18⟩ := T.habit
  have cHb : Cl P w K mg base CX0 2 "_law_habit" ["_law_row", "_law_places"] (spLHabit K) := ⟨f18, d18, ok_lhabit F18 B cTk, m18, F18.kp, F18.binds fun _ _ _ _ _ _ us hl => match us, hl with | [_, _], _ => rfl⟩
  obtain ⟨f19, d19, F19, m19⟩ := T.alike
  have b19 := F19.binds (ps := ["_law_found", "_law_due"]) fun _ _ _ _ _ _ us hl => match us, hl with | [_, _], _ => rfl
  have cAl : Cl P w K mg base CX0 3 "_law_alike" ["_law_found", "_law_due"] (spAl 2) := ⟨f19, d19, alike_all F19 B m19 b19 2, m19, F19.kp, b19⟩
  obtain ⟨f20, d20, F20, m20⟩ := T.lreads
  have cLR : Cl P w K mg base CX0 1 "_law_reads" ["_law_habit_here", "_law_test"] spReads := ⟨f20, d20, ok_lreads F20, m20, F20.kp, F20.binds fun _ _ _ _ _ _ us hl => match us, hl with | [_, _], _ => rfl⟩
  obtain ⟨f21, d21, F21, m21⟩ := T.ltests
  have cLTs : Cl P w K mg base CX0 1 "_law_tests" ["_law_habits", "_law_lot", "_law_group"] spLTests := ⟨f21, d21, ok_ltests F21 B, m21, F21.kp, F21.binds fun _ _ _ _ _ _ us hl => match us, hl with | [_, _, _], _ => rfl⟩
  obtain ⟨f22, d22, F22, m22⟩ := T.lleast
  have b22 := F22.binds (ps := ["_law_habits", "_law_lot", "_law_group", "_law_known"]) fun _ _ _ _ _ _ us hl => match us, hl with | [_, _, _, _], _ => rfl
  have cLe : Cl P w K mg base CX0 7 "_law_least" ["_law_habits", "_law_lot", "_law_group", "_law_known"] (spLLeast 6) := ⟨f22, d22, lleast_all F22 B m22 b22 cLTs 6, m22, F22.kp, b22⟩
  obtain ⟨f23, d23, F23, m23⟩ := T.lprice
  have b23 := F23.binds (ps := ["_law_habits", "_law_lot", "_law_group", "_law_tree"]) fun _ _ _ _ _ _ us hl => match us, hl with | [_, _, _, _], _ => rfl
  have cPr : Cl P w K mg base CX0 7 "_law_price" ["_law_habits", "_law_lot", "_law_group", "_law_tree"] (spLPrice 6) := ⟨f23, d23, lprice_all F23 B m23 b23 cLTs cLR 6, m23, F23.kp, b23⟩
  exact ok_law FL B T.bx cTk cHb cAl cLe cPr cLW cLT cW cSh
/-- an error of the class at B is what «except S» names -/
theorem exm_sub {K : PySem.W.Frag} {B S : Addr} (h1 : PySem.W.subIn K (.ref S) (.type "BaseException") = some true) (h2 : PySem.W.isClsIn K S = true) (h3 : PySem.W.typeIn K (.ref S) = some (.type "type")) (h4 : PySem.W.subIn K (.ref B) (.ref S) = some true) :
    PySem.W.exmOne K (.ref B) (.ref S) = some true := by
  have e1 : (PySem.W.subIn K (.ref S) (.type "BaseException") == some true) = true := by rw [h1] <;> rfl
  have e2 : ((PySem.W.clsIn K S).isSome && PySem.W.typeIn K (.ref S) == some (.type "type")) = true := by
    have h2' : (PySem.W.clsIn K S).isSome = true := h2
    rw [h2', h3] <;> rfl
  show (if (PySem.W.subIn K (.ref S) (.type "BaseException") == some true) = true then (if ((PySem.W.clsIn K S).isSome && PySem.W.typeIn K (.ref S) == some (.type "type")) = true then PySem.W.subIn K (.ref B) (.ref S) else none) else none) = some true
  rw [if_pos e1, if_pos e2]
  exact h4
theorem kit_self {K : PySem.W.Frag} {B : Addr} : PySem.W.kitOne K (.ref B) (.ref B) = some true := by
  unfold PySem.W.kitOne
  rw [if_pos (by show (Value.ref B == Value.ref B) = true; exact beq_self_eq_true _)]
theorem walkG {l : PySem.W.OpenLaw} {n k : Nat} {q : Program} {loose : List Str} {XP : (Str → Option Value) → Heap → Prop} {YP : World → Heap → Prop} {d : DefRec} {K : Params → PySem.W.Frag} {x : Str}
    (hn : l.most = some n) (hn2 : n ≤ sizeLine) (hdf : d.params.defaults = []) (hr : Room k callerA) (hY : ∀ (w : World) (h : Heap), YP w h → (K w.params).In h)
    (F : ∀ (w : World) lo mean (mg mb : Str → Option Value) (fa : Addr) (h : Heap), Top q lo mean mg mb h → YP w h → (K w.params).In h → h.Ns mainGlobals mg → mg d.name = some (.ref fa) → LamX.LawAtS l w (K w.params) CX0 k n x mg fa h) :
    PySem.W.WalkO q loose XP YP l.row.toRowW d [] (fun f vs => PySem.call f vs) := by
  refine Att.attach_callB hn hdf fun w s₀ s₁ mg mb fa o pm cd doc a vs ns G Y ho hd hcd hmg hobj hints hlen hbits hg => ?_
  have KX := hY w _ Y
  obtain ⟨fd, cs, sp, hT, nT, C, hb, hsp, hF⟩ := F w _ _ mg mb fa _ G.T Y KX G.T.g hmg
  exact LamX.law_callTs KX G.T.g G.T.b G.T.builtins G.T.nolimit hg hT nT C G.T.bmain hobj hints (Nat.le_trans hlen hn2) hr hF hb (fun H hH hS => hsp H a ns hlen hbits hH hS) fun H e s' z => z
theorem triples0 : TriplesOk (#[] : Array Value).toList := by
  first
    | trivial
    | exact .nil
    | exact rfl
    | simp [TriplesOk]
theorem lawAt {l : PySem.W.OpenLaw} {w : World} {K : PySem.W.Frag} {mg : Str → Option Value} {h : Heap} {c1 P1 c2 P2 C fI fT CB CS fa : Addr} (T : Tp K mg c1 P1 c2 P2 C fI fT CB CS) (hfa : mg "law" = some (.ref fa))
    (a1 : PySem.W.CodeHd h c1 P1 ∧ h.get? P1 = some (PySem.W.tabObj #[])) (a2 : PySem.W.CodeHd h c2 P2 ∧ h.get? P2 = some (PySem.W.tabObj #[])) (n1 : K.lookup P1 = none) (n2 : K.lookup P2 = none) : LamX.LawAtS l w K CX0 11 63 "_law_script" mg fa h := by
  obtain ⟨fd, hb, hF⟩ := assemble (P := l.prog) (w := w) T hfa
  refine ⟨fd, [(c1, P1), (c2, P2)], spLaw K P1 P2, ?_, ?_, ?_, hb, ?_, ?_⟩
  · intro p hp
    rcases List.mem_cons.mp hp with rfl | hp
    · exact a1.2
    · rw [List.mem_singleton.mp hp]
      exact a2.2
  · intro p hp
    rcases List.mem_cons.mp hp with rfl | hp
    · exact n1
    · rw [List.mem_singleton.mp hp]
      exact n2
  · intro p hp
    rcases List.mem_cons.mp hp with rfl | hp
    · exact a1.1
    · rw [List.mem_singleton.mp hp]
      exact a2.1
  · intro H a ns hl _ hH hS
    exact ⟨a, ns, rfl, hS, hl, ⟨#[], hH _ List.mem_cons_self, triples0⟩, ⟨#[], hH _ (List.mem_cons_of_mem _ List.mem_cons_self), triples0⟩, fun _ => rfl⟩
  · intro base KX G hT
    have t1 := hT _ List.mem_cons_self
    have t2 := hT _ (List.mem_cons_of_mem _ List.mem_cons_self)
    exact hF base KX G ⟨t1.code, t1.bm, t1.gP⟩ ⟨t2.code, t2.bm, t2.gP⟩
section
variable {K : PySem.W.Frag} {h : Heap} {mg : Str → Option Value}
theorem cn_mk {t1 t2 t3 t4 t5 : Tok} (X : K.In h) (G : h.Ns mainGlobals mg) (a1 : PySem.W.nsIn K mainGlobals "LEAST_PLACES" = some (some (.int 2 t1))) (a2 : PySem.W.nsIn K mainGlobals "MOST_PLACES" = some (some (.int 5 t2))) (a3 : PySem.W.nsIn K mainGlobals "MOST_MANY" = some (some (.int 5 t3)))
    (a4 : PySem.W.nsIn K mainGlobals "LEFT" = some (some (.str "left" t4))) (a5 : PySem.W.nsIn K mainGlobals "TEST" = some (some (.str "test" t5))) : Cn mg :=
  ⟨⟨_, PySem.W.mg_of X G a1⟩, ⟨_, PySem.W.mg_of X G a2⟩, ⟨_, PySem.W.mg_of X G a3⟩, ⟨_, PySem.W.mg_of X G a4⟩, ⟨_, PySem.W.mg_of X G a5⟩⟩
theorem bi_mk (X : K.In h) (G : h.Ns mainGlobals mg) (a1 : PySem.W.nsIn K mainGlobals "len" = some none) (a2 : PySem.W.nsIn K mainGlobals "range" = some none) (a3 : PySem.W.nsIn K mainGlobals "tuple" = some none) (a4 : PySem.W.nsIn K mainGlobals "list" = some none) (a5 : PySem.W.nsIn K mainGlobals "zip" = some none)
    (a6 : PySem.W.nsIn K mainGlobals "isinstance" = some none) (a7 : PySem.W.nsIn K mainGlobals "int" = some none) (a8 : PySem.W.nsIn K mainGlobals "bool" = some none) (a9 : PySem.W.nsIn K mainGlobals "str" = some none) (a10 : PySem.W.nsIn K mainGlobals "max" = some none)
    (a11 : PySem.W.nsIn K mainGlobals "sorted" = some none) (a12 : PySem.W.nsIn K mainGlobals "all" = some none) (a13 : PySem.W.nsIn K mainGlobals "set" = some none) (a14 : PySem.W.nsIn K mainGlobals "enumerate" = some none) : Bi mg :=
  ⟨PySem.W.mg_none_of X G a1, PySem.W.mg_none_of X G a2, PySem.W.mg_none_of X G a3, PySem.W.mg_none_of X G a4, PySem.W.mg_none_of X G a5, PySem.W.mg_none_of X G a6, PySem.W.mg_none_of X G a7, PySem.W.mg_none_of X G a8, PySem.W.mg_none_of X G a9, PySem.W.mg_none_of X G a10, PySem.W.mg_none_of X G a11, PySem.W.mg_none_of X G a12, PySem.W.mg_none_of X G a13, PySem.W.mg_none_of X G a14⟩
theorem bc_mk {C : Addr} (X : K.In h) (G : h.Ns mainGlobals mg) (a : PySem.W.nsIn K mainGlobals "Best" = some (some (.ref C))) (b1 : PySem.W.plainGet K C Str.empty = true) (b2 : PySem.W.hasDictIn K C = true) (b3 : PySem.W.plainOver K C = true) (b4 : PySem.W.findIn K (.ref C) "__setattr__" = some (some (.builtin "object.__setattr__")))
    (n1 : PySem.W.findIn K (.ref C) "habits" = some none) (n2 : PySem.W.findIn K (.ref C) "lot" = some none) (n3 : PySem.W.findIn K (.ref C) "known" = some none) : BC K mg C :=
  ⟨⟨b1, b2, b3, b4⟩, n1, n2, n3, PySem.W.mg_of X G a⟩
theorem bm_mk {C fI fT : Addr} {oc1 oc2 : Value} {od1 od2 an1 an2 : Option Addr} {sl1 sl2 : Array (Option Value)} {kV1 dc1 pm1 cd1 ct1 kV2 dc2 pm2 cd2 ct2 : Value} (a1 : PySem.W.makesIn K C = true) (a2 : PySem.W.findIn K (.ref C) "__init__" = some (some (.ref fI))) (a3 : PySem.W.isFn K (.ref fI) = true) (a4 : PySem.W.keepIn K (.ref C) = true)
    (b1 : PySem.W.findIn K (.ref C) "tree" = some (some (.ref fT))) (b2 : PySem.W.isFn K (.ref fT) = true) (b3 : PySem.W.keepIn K (.ref fT) = true)
    (l1 : K.lookup fI = some ⟨oc1, od1, .func (PySem.W.fnOf "__init__" "Best.__init__" (defArgs sBInit) (defBody sBInit) (defScope sBInit) .none kV1 dc1 pm1 an1 cd1 ct1), sl1⟩) (c1 : PySem.W.codeIn K cd1 "Best.__init__" = true) (k1 : PySem.W.keepIn K (.ref fI) = true)
    (l2 : K.lookup fT = some ⟨oc2, od2, .func (PySem.W.fnOf "tree" "Best.tree" (defArgs sBTree) (defBody sBTree) (defScope sBTree) .none kV2 dc2 pm2 an2 cd2 ct2), sl2⟩) (c2 : PySem.W.codeIn K cd2 "Best.tree" = true) : BM K C fI fT :=
  ⟨⟨a1, a2, a3, a4⟩, ⟨b1, b2, b3⟩, ⟨_, fun_mk l1 c1 k1⟩, ⟨_, fun_mk l2 c2 b3⟩⟩
theorem bx_mk {CB CS : Addr} (X : K.In h) (G : h.Ns mainGlobals mg) (a : PySem.W.nsIn K mainGlobals "BadTree" = some (some (.ref CB))) (b : PySem.W.nsIn K mainGlobals "ShelfError" = some (some (.ref CS)))
    (x : PySem.W.excIn K CB [.type "ValueError", .type "Exception", .type "BaseException", .type "object"] "ValueError.__new__" = true) (k : PySem.W.keepIn K (.ref CB) = true) (b1 : PySem.W.subIn K (.ref CB) (.type "BaseException") = some true) (t1 : PySem.W.typeIn K (.ref CB) = some (.type "type"))
    (s1 : PySem.W.subIn K (.ref CS) (.type "BaseException") = some true) (s2 : PySem.W.isClsIn K CS = true) (s3 : PySem.W.typeIn K (.ref CS) = some (.type "type")) (s4 : PySem.W.subIn K (.ref CB) (.ref CS) = some true)
    (e1 : PySem.W.findIn K (.ref CB) "__getattribute__" = some (some (.builtin "BaseException.__getattribute__"))) (e2 : PySem.W.findIn K (.ref CB) "__getattr__" = some none) (e3 : PySem.W.hasDictIn K CB = true) (e4 : PySem.W.findIn K (.ref CB) "__class__" = some (some (.builtin "object.__class__")))
    (e5 : PySem.W.specialIn K (.builtin "object.__class__") "__get__" = some (some (.builtin "getset_descriptor.__get__"))) (e6 : PySem.W.takesIn K (.builtin "object.__class__") = some true) (e7 : PySem.W.mroIn K CB (.type "object") = some true) : BX K mg CB CS :=
  ⟨⟨PySem.W.mg_of X G a, x, k, b1, t1⟩, PySem.W.mg_of X G b, exm_sub s1 s2 s3 s4, ⟨e1, e2, b1, e3, e4, e5, e6, e7⟩, kit_self⟩
/-- the same, as what there is -/
theorem dcx {q : Program} {lo : List Str} {mean} {mb : Str → Option Value} {d : DefRec} {x : Str} {st : Stmt} {f c P : Addr} {oc : Value} {od an : Option Addr} {osl : Array (Option Value)} {kV doc pm ct : Value} {oc2 : Value} {od2 : Option Addr} {vs : Array Value} {osl2 : Array (Option Value)} (X : K.In h) (G : h.Ns mainGlobals mg) (T : Top q lo mean mg mb h)
    (a : PySem.W.nsIn K mainGlobals x = some (some (.ref f))) (l : K.lookup f = some ⟨oc, od, .func (PySem.W.fnOf x x (defArgs st) (defBody st) (defScope st) .none kV doc pm an (.ref c) ct), osl⟩) (cc : PySem.W.codeIn K (.ref c) x = true) (k : PySem.W.keepIn K (.ref f) = true)
    (l2 : K.lookup c = some ⟨oc2, od2, .fields vs, osl2⟩) (h11 : vs[11]? = some (.ref P)) (hr : (recsOf q).find? (fun e => e.name == x) = some d) (n : K.lookup P = none) :
    ∃ c P, DefC K mg x st c P ∧ (PySem.W.CodeHd h c P ∧ h.get? P = some (PySem.W.tabObj #[])) ∧ K.lookup P = none :=
  let D := dc X G a l cc k l2 h11
  ⟨c, P, D, PySem.W.tab_of T X hr D.2, n⟩
theorem bcm {C fI fT : Addr} {oc1 oc2 : Value} {od1 od2 an1 an2 : Option Addr} {sl1 sl2 : Array (Option Value)} {kV1 dc1 pm1 cd1 ct1 kV2 dc2 pm2 cd2 ct2 : Value} (X : K.In h) (G : h.Ns mainGlobals mg) (a : PySem.W.nsIn K mainGlobals "Best" = some (some (.ref C))) (b1 : PySem.W.plainGet K C Str.empty = true) (b2 : PySem.W.hasDictIn K C = true) (b3 : PySem.W.plainOver K C = true) (b4 : PySem.W.findIn K (.ref C) "__setattr__" = some (some (.builtin "object.__setattr__")))
    (n1 : PySem.W.findIn K (.ref C) "habits" = some none) (n2 : PySem.W.findIn K (.ref C) "lot" = some none) (n3 : PySem.W.findIn K (.ref C) "known" = some none)
    (a1 : PySem.W.makesIn K C = true) (a2 : PySem.W.findIn K (.ref C) "__init__" = some (some (.ref fI))) (a3 : PySem.W.isFn K (.ref fI) = true) (a4 : PySem.W.keepIn K (.ref C) = true)
    (m1 : PySem.W.findIn K (.ref C) "tree" = some (some (.ref fT))) (m2 : PySem.W.isFn K (.ref fT) = true) (m3 : PySem.W.keepIn K (.ref fT) = true)
    (l1 : K.lookup fI = some ⟨oc1, od1, .func (PySem.W.fnOf "__init__" "Best.__init__" (defArgs sBInit) (defBody sBInit) (defScope sBInit) .none kV1 dc1 pm1 an1 cd1 ct1), sl1⟩) (c1 : PySem.W.codeIn K cd1 "Best.__init__" = true) (k1 : PySem.W.keepIn K (.ref fI) = true)
    (l2 : K.lookup fT = some ⟨oc2, od2, .func (PySem.W.fnOf "tree" "Best.tree" (defArgs sBTree) (defBody sBTree) (defScope sBTree) .none kV2 dc2 pm2 an2 cd2 ct2), sl2⟩) (c2 : PySem.W.codeIn K cd2 "Best.tree" = true) : ∃ C fI fT, BC K mg C ∧ BM K C fI fT :=
  ⟨C, fI, fT, bc_mk X G a b1 b2 b3 b4 n1 n2 n3, bm_mk a1 a2 a3 a4 m1 m2 m3 l1 c1 k1 l2 c2⟩
theorem bxm {CB CS : Addr} (X : K.In h) (G : h.Ns mainGlobals mg) (a : PySem.W.nsIn K mainGlobals "BadTree" = some (some (.ref CB))) (b : PySem.W.nsIn K mainGlobals "ShelfError" = some (some (.ref CS)))
    (x : PySem.W.excIn K CB [.type "ValueError", .type "Exception", .type "BaseException", .type "object"] "ValueError.__new__" = true) (k : PySem.W.keepIn K (.ref CB) = true) (b1 : PySem.W.subIn K (.ref CB) (.type "BaseException") = some true) (t1 : PySem.W.typeIn K (.ref CB) = some (.type "type"))
    (s1 : PySem.W.subIn K (.ref CS) (.type "BaseException") = some true) (s2 : PySem.W.isClsIn K CS = true) (s3 : PySem.W.typeIn K (.ref CS) = some (.type "type")) (s4 : PySem.W.subIn K (.ref CB) (.ref CS) = some true)
    (e1 : PySem.W.findIn K (.ref CB) "__getattribute__" = some (some (.builtin "BaseException.__getattribute__"))) (e2 : PySem.W.findIn K (.ref CB) "__getattr__" = some none) (e3 : PySem.W.hasDictIn K CB = true) (e4 : PySem.W.findIn K (.ref CB) "__class__" = some (some (.builtin "object.__class__")))
    (e5 : PySem.W.specialIn K (.builtin "object.__class__") "__get__" = some (some (.builtin "getset_descriptor.__get__"))) (e6 : PySem.W.takesIn K (.builtin "object.__class__") = some true) (e7 : PySem.W.mroIn K CB (.type "object") = some true) : ∃ CB CS, BX K mg CB CS :=
  ⟨CB, CS, bx_mk X G a b x k b1 t1 s1 s2 s3 s4 e1 e2 e3 e4 e5 e6 e7⟩
theorem fin {l : PySem.W.OpenLaw} {w : World} {fa : Addr} (X : K.In h) (G : h.Ns mainGlobals mg) (hfa : mg "law" = some (.ref fa)) (bi : Bi mg) (cn : Cn mg)
    (d_num : DefK K mg "is_number" sNum)
    (d_needH : DefK K mg "need_habit" sNeedH)
    (d_needM : DefK K mg "need_many" sNeedM)
    (d_marks : DefK K mg "marks_of" sMarks)
    (d_part : DefK K mg "partings" sPart)
    (d_touch : DefK K mg "touches_of" sTouch)
    (d_best : DefK K mg "best_tree" sBest)
    (d_lw : DefK K mg "least_worst" sLeastW)
    (d_lt : DefK K mg "least_tree" sLeastT)
    (d_isT : DefK K mg "is_test_of" sIsTest)
    (d_reads : DefK K mg "reads_mark" sReads)
    (d_worstOf : DefK K mg "worst_of" sWorstOf)
    (d_worst : DefK K mg "worst" sWorst)
    (d_shows : DefK K mg "shows_tree" sShows)
    (d_taken : DefK K mg "_law_taken" sTaken)
    (d_habit : DefK K mg "_law_habit" sLHabit)
    (d_alike : DefK K mg "_law_alike" sAlike)
    (d_lreads : DefK K mg "_law_reads" sLReads)
    (d_ltests : DefK K mg "_law_tests" sLTests)
    (d_lleast : DefK K mg "_law_least" sLLeast)
    (d_lprice : DefK K mg "_law_price" sLPrice)
    (d_law : DefK K mg "law" sLaw)
    (d_perm : ∃ c P, DefC K mg "is_permutation" sPerm c P ∧ (PySem.W.CodeHd h c P ∧ h.get? P = some (PySem.W.tabObj #[])) ∧ K.lookup P = none)
    (d_needL : ∃ c P, DefC K mg "need_lot" sNeedL c P ∧ (PySem.W.CodeHd h c P ∧ h.get? P = some (PySem.W.tabObj #[])) ∧ K.lookup P = none)
    (d_best2 : ∃ C fI fT, BC K mg C ∧ BM K C fI fT) (d_bx : ∃ CB CS, BX K mg CB CS) : LamX.LawAtS l w K CX0 11 63 "_law_script" mg fa h := by
  obtain ⟨c1, P1, q1, t1, z1⟩ := d_perm
  obtain ⟨c2, P2, q2, t2, z2⟩ := d_needL
  obtain ⟨C, fI, fT, bc, bm⟩ := d_best2
  obtain ⟨CB, CS, bx⟩ := d_bx
  exact lawAt { bi := bi, cn := cn, perm := q1, needL := q2, bc := bc, bm := bm, bx := bx, num := d_num, needH := d_needH, needM := d_needM, marks := d_marks, part := d_part, touch := d_touch, best := d_best, lw := d_lw, lt := d_lt, isT := d_isT, reads := d_reads, worstOf := d_worstOf, worst := d_worst, shows := d_shows, taken := d_taken, habit := d_habit, alike := d_alike, lreads := d_lreads, ltests := d_ltests, lleast := d_lleast, lprice := d_lprice, law := d_law } hfa t1 t2 z1 z2
end
end Rs


open PySem PySem.W PyProof.Rows
set_option Elab.async false
set_option maxRecDepth 100000 in
set_option maxHeartbeats 0 in
theorem PySem.Challenge.cw_restlesshelf_k64_whole_trees_holds : PySem.Challenge.rw_restlesshelf_k64_whole_trees.Holds := by
  w_on; o_law; k_head; (case hw => w_witness2)
  k_fill
  refine Rs.walkG (l := PySem.Challenge.rw_restlesshelf_k64_whole_trees) (k := 11) (n := 63) (x := "_law_script") rfl (by decide) rfl ⟨rfl, by decide, by decide⟩ (fun w h Y => PySem.W.kIn_of Y) ?F
  case F =>
    intro w lo mean mg mb fa h TT Y KX G hmg
    refine' Rs.fin KX G hmg ?bi ?cn ?d_num ?d_needH ?d_needM ?d_marks ?d_part ?d_touch ?d_best ?d_lw ?d_lt ?d_isT ?d_reads ?d_worstOf ?d_worst ?d_shows ?d_taken ?d_habit ?d_alike ?d_lreads ?d_ltests ?d_lleast ?d_lprice ?d_law ?d_perm ?d_needL ?d_best2 ?d_bx
    case bi =>
      refine' Rs.bi_mk KX G ?a1 ?a2 ?a3 ?a4 ?a5 ?a6 ?a7 ?a8 ?a9 ?a10 ?a11 ?a12 ?a13 ?a14
      (case a1 => k_is)
      (case a2 => k_is)
      (case a3 => k_is)
      (case a4 => k_is)
      (case a5 => k_is)
      (case a6 => k_is)
      (case a7 => k_is)
      (case a8 => k_is)
      (case a9 => k_is)
      (case a10 => k_is)
      (case a11 => k_is)
      (case a12 => k_is)
      (case a13 => k_is)
      (case a14 => k_is)
    case cn =>
      refine' Rs.cn_mk KX G ?a1 ?a2 ?a3 ?a4 ?a5
      (case a1 => k_is)
      (case a2 => k_is)
      (case a3 => k_is)
      (case a4 => k_is)
      (case a5 => k_is)
    case d_num =>
      refine' Rs.dk KX G ?a ?l ?c ?k
      (case a => k_is)
      (case l => k_is)
      (case c => k_is)
      (case k => k_is)
    case d_needH =>
      refine' Rs.dk KX G ?a ?l ?c ?k
      (case a => k_is)
      (case l => k_is)
      (case c => k_is)
      (case k => k_is)
    case d_needM =>
      refine' Rs.dk KX G ?a ?l ?c ?k
      (case a => k_is)
      (case l => k_is)
      (case c => k_is)
      (case k => k_is)
    case d_marks =>
      refine' Rs.dk KX G ?a ?l ?c ?k
      (case a => k_is)
      (case l => k_is)
      (case c => k_is)
      (case k => k_is)
    case d_part =>
      refine' Rs.dk KX G ?a ?l ?c ?k
      (case a => k_is)
      (case l => k_is)
      (case c => k_is)
      (case k => k_is)
    case d_touch =>
      refine' Rs.dk KX G ?a ?l ?c ?k
      (case a => k_is)
      (case l => k_is)
      (case c => k_is)
      (case k => k_is)
    case d_best =>
      refine' Rs.dk KX G ?a ?l ?c ?k
      (case a => k_is)
      (case l => k_is)
      (case c => k_is)
      (case k => k_is)
    case d_lw =>
      refine' Rs.dk KX G ?a ?l ?c ?k
      (case a => k_is)
      (case l => k_is)
      (case c => k_is)
      (case k => k_is)
    case d_lt =>
      refine' Rs.dk KX G ?a ?l ?c ?k
      (case a => k_is)
      (case l => k_is)
      (case c => k_is)
      (case k => k_is)
    case d_isT =>
      refine' Rs.dk KX G ?a ?l ?c ?k
      (case a => k_is)
      (case l => k_is)
      (case c => k_is)
      (case k => k_is)
    case d_reads =>
      refine' Rs.dk KX G ?a ?l ?c ?k
      (case a => k_is)
      (case l => k_is)
      (case c => k_is)
      (case k => k_is)
    case d_worstOf =>
      refine' Rs.dk KX G ?a ?l ?c ?k
      (case a => k_is)
      (case l => k_is)
      (case c => k_is)
      (case k => k_is)
    case d_worst =>
      refine' Rs.dk KX G ?a ?l ?c ?k
      (case a => k_is)
      (case l => k_is)
      (case c => k_is)
      (case k => k_is)
    case d_shows =>
      refine' Rs.dk KX G ?a ?l ?c ?k
      (case a => k_is)
      (case l => k_is)
      (case c => k_is)
      (case k => k_is)
    case d_taken =>
      refine' Rs.dk KX G ?a ?l ?c ?k
      (case a => k_is)
      (case l => k_is)
      (case c => k_is)
      (case k => k_is)
    case d_habit =>
      refine' Rs.dk KX G ?a ?l ?c ?k
      (case a => k_is)
      (case l => k_is)
      (case c => k_is)
      (case k => k_is)
    case d_alike =>
      refine' Rs.dk KX G ?a ?l ?c ?k
      (case a => k_is)
      (case l => k_is)
      (case c => k_is)
      (case k => k_is)
    case d_lreads =>
      refine' Rs.dk KX G ?a ?l ?c ?k
      (case a => k_is)
      (case l => k_is)
      (case c => k_is)
      (case k => k_is)
    case d_ltests =>
      refine' Rs.dk KX G ?a ?l ?c ?k
      (case a => k_is)
      (case l => k_is)
      (case c => k_is)
      (case k => k_is)
    case d_lleast =>
      refine' Rs.dk KX G ?a ?l ?c ?k
      (case a => k_is)
      (case l => k_is)
      (case c => k_is)
      (case k => k_is)
    case d_lprice =>
      refine' Rs.dk KX G ?a ?l ?c ?k
      (case a => k_is)
      (case l => k_is)
      (case c => k_is)
      (case k => k_is)
    case d_law =>
      refine' Rs.dk KX G ?a ?l ?c ?k
      (case a => k_is)
      (case l => k_is)
      (case c => k_is)
      (case k => k_is)
    case d_perm =>
      refine' Rs.dcx KX G TT ?a ?l ?c ?k ?l2 ?h11 ?hr ?n
      (case a => k_is)
      (case l => k_is)
      (case c => k_is)
      (case k => k_is)
      (case l2 => k_is)
      (case h11 => rfl)
      (case hr => rfl)
      (case n => first | rfl | kernel_rfl)
    case d_needL =>
      refine' Rs.dcx KX G TT ?a ?l ?c ?k ?l2 ?h11 ?hr ?n
      (case a => k_is)
      (case l => k_is)
      (case c => k_is)
      (case k => k_is)
      (case l2 => k_is)
      (case h11 => rfl)
      (case hr => rfl)
      (case n => first | rfl | kernel_rfl)
    case d_best2 =>
      refine' Rs.bcm KX G ?a ?b1 ?b2 ?b3 ?b4 ?n1 ?n2 ?n3 ?a1 ?a2 ?a3 ?a4 ?m1 ?m2 ?m3 ?l1 ?c1 ?k1 ?l2 ?c2
      (case a => k_is)
      (case b1 => k_is)
      (case b2 => k_is)
      (case b3 => k_is)
      (case b4 => k_is)
      (case n1 => k_is)
      (case n2 => k_is)
      (case n3 => k_is)
      (case a1 => k_is)
      (case a2 => k_is)
      (case a3 => k_is)
      (case a4 => k_is)
      (case m1 => k_is)
      (case m2 => k_is)
      (case m3 => k_is)
      (case l1 => k_is)
      (case c1 => k_is)
      (case k1 => k_is)
      (case l2 => k_is)
      (case c2 => k_is)
    case d_bx =>
      refine' Rs.bxm KX G ?a ?b ?x ?k ?b1 ?t1 ?s1 ?s2 ?s3 ?s4 ?e1 ?e2 ?e3 ?e4 ?e5 ?e6 ?e7
      (case a => k_is)
      (case b => k_is)
      (case x => k_exc)
      (case k => k_is)
      (case b1 => k_is)
      (case t1 => k_is)
      (case s1 => k_is)
      (case s2 => k_is)
      (case s3 => k_is)
      (case s4 => k_is)
      (case e1 => k_is)
      (case e2 => k_is)
      (case e3 => k_is)
      (case e4 => k_is)
      (case e5 => k_is)
      (case e6 => k_is)
      (case e7 => k_is)

